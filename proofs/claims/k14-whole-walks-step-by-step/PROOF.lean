import PyProof.Rows.All
import Wide.All
import OpenK.AllK
import Wide.FinOn
import HandS.ForMost
import HandS.IsInst
import HandS.TupAny
import HandS.Style
import HandS.Zip
import HandS.Walk
import HandS.Flow
import HandS.NoneIn
import KE.KDictDisplayH
import KE.KRevSl
import PySem.Challenge.RW_roundtold_k14_whole_walks_step_by_step
set_option Elab.async false
set_option linter.all false
set_option maxRecDepth 100000
set_option maxHeartbeats 4000000
/-! L3A: data over the abstract heap; frames of slots; evaluation without a heap in sight. -/
namespace L3
open PySem L2
/-! ### data, all of it tracked in the heap S -/
mutual
inductive Dt (S : Hp) : V → PyData → Prop
  | non : Dt S .non .none
  | bl (b : Bool) : Dt S (.bl b) (.bool b)
  | int (i : Int) : Dt S (.int i) (.int i)
  | lst {a : Addr} {xs : List V} {ds : List PyData} : S a = some (.lst xs) → DtAll S xs ds → Dt S (.ref a) (.list ds)
  | tup {a : Addr} {xs : List V} {ds : List PyData} : S a = some (.tup xs) → DtAll S xs ds → Dt S (.ref a) (.tuple ds)
inductive DtAll (S : Hp) : List V → List PyData → Prop
  | nil : DtAll S [] []
  | cons {v : V} {vs : List V} {d : PyData} {ds : List PyData} : Dt S v d → DtAll S vs ds → DtAll S (v :: vs) (d :: ds)
end
mutual
theorem Dt.mono {S S' : Hp} (e : Same S S') : ∀ (d : PyData) {v : V}, Dt S v d → Dt S' v d
  | .none, _, h => by cases h; exact .non
  | .bool b, _, h => by cases h; exact .bl b
  | .int i, _, h => by cases h; exact .int i
  | .str _, _, h => by cases h
  | .list ds, _, h => by
    cases h with
    | lst a b => exact .lst (e _ _ a) (DtAll.mono e ds b)
  | .tuple ds, _, h => by
    cases h with
    | tup a b => exact .tup (e _ _ a) (DtAll.mono e ds b)
  | .dict _, _, h => by cases h
theorem DtAll.mono {S S' : Hp} (e : Same S S') : ∀ (ds : List PyData) {vs : List V}, DtAll S vs ds → DtAll S' vs ds
  | [], _, h => by cases h; exact .nil
  | d :: ds, _, h => by
    cases h with
    | cons a b => exact .cons (Dt.mono e d a) (DtAll.mono e ds b)
end
theorem Dt.up {S S' : Hp} {v : V} {d : PyData} (h : Dt S v d) (e : Same S S') : Dt S' v d := Dt.mono e d h
theorem DtAll.up {S S' : Hp} {vs : List V} {ds : List PyData} (h : DtAll S vs ds) (e : Same S S') : DtAll S' vs ds := DtAll.mono e ds h
mutual
theorem Dt.toDp {K : PySem.W.Frag} {S H : Hp} (e : Same S H) : ∀ (d : PyData) {v : V}, Dt S v d → Dp K H v d
  | .none, _, h => by cases h; exact .non
  | .bool b, _, h => by cases h; exact .bl b
  | .int i, _, h => by cases h; exact .int i
  | .str _, _, h => by cases h
  | .list ds, _, h => by
    cases h with
    | lst a b => exact .lst (SqL.of (e _ _ a)) (DtAll.toDp e ds b)
  | .tuple ds, _, h => by
    cases h with
    | tup a b => exact .tup (SqT.of (e _ _ a)) (DtAll.toDp e ds b)
  | .dict _, _, h => by cases h
theorem DtAll.toDp {K : PySem.W.Frag} {S H : Hp} (e : Same S H) : ∀ (ds : List PyData) {vs : List V}, DtAll S vs ds → DpAll K H vs ds
  | [], _, h => by cases h; exact .nil
  | d :: ds, _, h => by
    cases h with
    | cons a b => exact .cons (Dt.toDp e d a) (DtAll.toDp e ds b)
end
theorem DtAll.length {S : Hp} : ∀ {ds : List PyData} {vs : List V}, DtAll S vs ds → vs.length = ds.length
  | [], _, h => by cases h; rfl
  | d :: ds, _, h => by
    cases h with
    | cons a b => rw [List.length_cons, List.length_cons, DtAll.length b]
theorem DtAll.get {S : Hp} : ∀ {ds : List PyData} {vs : List V} {i : Nat} {d : PyData}, DtAll S vs ds → ds[i]? = some d → ∃ v, vs[i]? = some v ∧ Dt S v d
  | [], _, _, _, _, e => by simp at e
  | _ :: ds, _, 0, d, h, e => by
    cases h with
    | cons a b => simp at e; subst e; exact ⟨_, rfl, a⟩
  | _ :: ds, _, i + 1, d, h, e => by
    cases h with
    | cons a b =>
      obtain ⟨v, h1, h2⟩ := DtAll.get (i := i) (d := d) b (by simpa using e)
      exact ⟨v, by simpa using h1, h2⟩
theorem DtAll.getV {S : Hp} {ds : List PyData} {vs : List V} {i : Nat} {v : V} (h : DtAll S vs ds) (e : vs[i]? = some v) : ∃ d, ds[i]? = some d ∧ Dt S v d := by
  have hi : i < vs.length := (List.getElem?_eq_some_iff.mp e).1
  have hd : ds[i]? = some (ds[i]'(by rw [← h.length]; exact hi)) := List.getElem?_eq_getElem _
  obtain ⟨v', e', q⟩ := h.get hd
  rw [e] at e'
  cases e'
  exact ⟨_, hd, q⟩
theorem DtAll.append {S : Hp} : ∀ {ds es : List PyData} {vs ws : List V}, DtAll S vs ds → DtAll S ws es → DtAll S (vs ++ ws) (ds ++ es)
  | [], _, _, _, h, q => by cases h; exact q
  | d :: ds, _, _, _, h, q => by
    cases h with
    | cons a b => exact .cons a (DtAll.append b q)
theorem DtAll.one {S : Hp} {v : V} {d : PyData} (h : Dt S v d) : DtAll S [v] [d] := .cons h .nil
theorem DtAll.take {S : Hp} : ∀ {ds : List PyData} {vs : List V} (n : Nat), DtAll S vs ds → DtAll S (vs.take n) (ds.take n)
  | _, _, 0, _ => .nil
  | [], _, n + 1, h => by cases h; exact .nil
  | d :: ds, _, n + 1, h => by
    cases h with
    | cons a b => exact .cons a (DtAll.take n b)
theorem DtAll.drop {S : Hp} : ∀ {ds : List PyData} {vs : List V} (n : Nat), DtAll S vs ds → DtAll S (vs.drop n) (ds.drop n)
  | _, _, 0, h => h
  | [], _, n + 1, h => by cases h; exact .nil
  | d :: ds, _, n + 1, h => by
    cases h with
    | cons a b => exact DtAll.drop n b
theorem DtAll.reverse {S : Hp} : ∀ {ds : List PyData} {vs : List V}, DtAll S vs ds → DtAll S vs.reverse ds.reverse
  | [], _, h => by cases h; exact .nil
  | d :: ds, _, h => by
    cases h with
    | cons a b => rw [List.reverse_cons, List.reverse_cons]; exact DtAll.append (DtAll.reverse b) (.one a)
theorem DtAll.atI {S : Hp} {ds : List PyData} {vs : List V} {i : Int} {d : PyData} (h : DtAll S vs ds) (e : L2.atI ds i = some d) : ∃ v, L2.atI vs i = some v ∧ Dt S v d := by
  unfold L2.atI at e ⊢
  rw [h.length]
  cases q : ixN ds.length i with
  | none => rw [q] at e; cases e
  | some j => rw [q] at e; exact h.get e
theorem DtAll.ints {S : Hp} : ∀ (ns : List Int), DtAll S (ns.map V.int) (ns.map PyData.int)
  | [] => .nil
  | n :: ns => .cons (.int n) (DtAll.ints ns)
theorem DtAll.of_ints {S : Hp} : ∀ {ns : List Int} {vs : List V}, DtAll S vs (ns.map PyData.int) → vs = ns.map V.int
  | [], _, h => by cases h; rfl
  | n :: ns, _, h => by
    cases h with
    | cons a b => cases a; rw [DtAll.of_ints b]; rfl
/-! ### how the heap goes on: S the part that stands still, H the whole; B: whose objects stay (but those of M) -/
structure XB (M : Addr → Prop) (B S H S' H' : Hp) : Prop where
  st : Same S S'
  keep : ∀ b o, ¬ M b → B b ≠ none → H b = some o → H' b = some o
  dom : ∀ b, H' b = none → H b = none
  sub : Same S' H'
  new : ∀ b o, S' b = some o → S b = some o ∨ B b = none
abbrev NoM : Addr → Prop := fun _ => False
theorem XB.refl {M : Addr → Prop} {B S H : Hp} (e : Same S H) : XB M B S H S H := ⟨Same.refl S, fun _ _ _ _ h => h, fun _ h => h, e, fun _ _ h => .inl h⟩
theorem XB.trans {M : Addr → Prop} {B S H S1 H1 S2 H2 : Hp} (a : XB M B S H S1 H1) (b : XB M B S1 H1 S2 H2) : XB M B S H S2 H2 where
  st := a.st.trans b.st
  keep := fun c o h1 h2 h3 => b.keep c o h1 h2 (a.keep c o h1 h2 h3)
  dom := fun c h => a.dom c (b.dom c h)
  sub := b.sub
  new := fun c o h => by
    rcases b.new c o h with q | q
    · exact a.new c o q
    · exact .inr q
/-- what stays of more stays of less -/
theorem XB.low {M N : Addr → Prop} {B C S H S' H' : Hp} (a : XB M B S H S' H') (hd : ∀ b, B b = none → C b = none) (hm : ∀ b, M b → N b) : XB N C S H S' H' where
  st := a.st
  keep := fun c o h1 h2 h3 => a.keep c o (fun z => h1 (hm c z)) (fun z => h2 (hd c z)) h3
  dom := a.dom
  sub := a.sub
  new := fun c o h => (a.new c o h).imp id (hd c)
abbrev Xt (S H S' H' : Hp) : Prop := XB NoM H S H S' H'
theorem Xt.same {S H S' H' : Hp} (a : Xt S H S' H') : Same H H' := fun b o h => a.keep b o (fun z => z) (by rw [h]; intro z; cases z) h
theorem Xt.trans {S H S1 H1 S2 H2 : Hp} (a : Xt S H S1 H1) (b : Xt S1 H1 S2 H2) : Xt S H S2 H2 := XB.trans a (b.low a.dom fun _ z => z)
theorem Xt.low {N : Addr → Prop} {B S H S' H' : Hp} (a : Xt S H S' H') (hd : ∀ b, H b = none → B b = none) : XB N B S H S' H' := XB.low a hd fun _ z => z.elim
theorem same_upd {H : Hp} {p : Addr} {o : HO} (h : H p = none) : Same H (upd H p o) := fun b u q => by rw [upd_ne (ne_of_none q h)]; exact q
/-- a new object that stands still -/
theorem Xt.fresh {S H : Hp} {p : Addr} {o : HO} (e : Same S H) (h : H p = none) : Xt S H (upd S p o) (upd H p o) where
  st := same_upd (e.free h)
  keep := fun b u _ _ q => same_upd h b u q
  dom := fun b q => by
    by_cases hb : b = p
    · subst hb; exact h
    · rw [upd_ne hb] at q; exact q
  sub := fun b u q => by
    by_cases hb : b = p
    · subst hb; rw [upd_same] at q ⊢; exact q
    · rw [upd_ne hb] at q ⊢; exact e b u q
  new := fun b u q => by
    by_cases hb : b = p
    · subst hb; exact .inr h
    · rw [upd_ne hb] at q; exact .inl q
/-- a new object that may change -/
theorem Xt.freshM {S H : Hp} {p : Addr} {o : HO} (e : Same S H) (h : H p = none) : Xt S H S (upd H p o) where
  st := Same.refl S
  keep := fun b u _ _ q => same_upd h b u q
  dom := fun b q => by
    by_cases hb : b = p
    · subst hb; exact h
    · rw [upd_ne hb] at q; exact q
  sub := e.trans (same_upd h)
  new := fun b u q => .inl q
/-! ### slots -/
/-- what is known of a slot: nothing; data; a list of one's own; a dict of one's own (keys tuples of ints, values ints); the thing at a -/
inductive Sl where
  | u | d (x : PyData) | m (xs : List PyData) | q (kvs : List (List Int × Int)) | t (a : Addr)
def Ow : Sl → Bool
  | .m _ => true
  | .q _ => true
  | _ => false
def Mu : Sl → Bool
  | .m _ => true
  | .q _ => true
  | .t _ => true
  | _ => false
theorem Ow.mu {s : Sl} (h : Ow s = true) : Mu s = true := by cases s <;> first | rfl | cases h
abbrev kInt (kvs : List (List Int × Int)) : List (List Key × V) := kvs.map fun p => (p.1.map Sum.inl, V.int p.2)
def VS (S H : Hp) (v : V) : Sl → Prop
  | .u => True
  | .d x => Dt S v x
  | .m xs => ∃ p vs, v = .ref p ∧ S p = none ∧ H p = some (.lst vs) ∧ DtAll S vs xs
  | .q kvs => ∃ p, v = .ref p ∧ S p = none ∧ H p = some (.dT (kInt kvs))
  | .t a => v = .ref a ∧ S a = none ∧ H a ≠ none
theorem VS.mu {S H : Hp} {v : V} {s : Sl} (h : VS S H v s) (m : Mu s = true) : ∃ p, v = .ref p ∧ S p = none ∧ H p ≠ none := by
  cases s with
  | u => cases m
  | d x => cases m
  | m xs => obtain ⟨p, vs, e, a, b, _⟩ := h; exact ⟨p, e, a, by rw [b]; intro z; cases z⟩
  | q kvs => obtain ⟨p, e, a, b⟩ := h; exact ⟨p, e, a, by rw [b]; intro z; cases z⟩
  | t a => obtain ⟨e, b, c⟩ := h; exact ⟨a, e, b, c⟩
theorem still {S H S' H' : Hp} {M : Addr → Prop} {B : Hp} (x : XB M B S H S' H') {p : Addr} (h : S p = none) (hb : B p ≠ none) : S' p = none := by
  cases q : S' p with
  | none => rfl
  | some o =>
    rcases x.new p o q with z | z
    · rw [h] at z; cases z
    · exact absurd z hb
theorem VS.ext {S H S' H' : Hp} {v : V} {s : Sl} (x : Xt S H S' H') (h : VS S H v s) : VS S' H' v s := by
  cases s with
  | u => exact True.intro
  | d y => exact Dt.up h x.st
  | m xs =>
    obtain ⟨p, vs, e, a, b, c⟩ := h
    exact ⟨p, vs, e, still x a (by rw [b]; intro z; cases z), x.same _ _ b, c.up x.st⟩
  | q kvs =>
    obtain ⟨p, e, a, b⟩ := h
    exact ⟨p, e, still x a (by rw [b]; intro z; cases z), x.same _ _ b⟩
  | t a =>
    obtain ⟨e, b, c⟩ := h
    exact ⟨e, still x b c, fun z => c (x.dom _ z)⟩
/-- the frame: slot i holds what δ says -/
structure Fr (B S H : Hp) (σ : St) (δ : List Sl) : Prop where
  len : σ.length = δ.length
  sub : Same S H
  dB : ∀ b, H b = none → B b = none
  val : ∀ (i : Nat) (s : Sl), δ[i]? = some s → s = .u ∨ ∃ v, σ[i]? = some (some v) ∧ VS S H v s
  own : ∀ (i : Nat) (s : Sl) (p : Addr), δ[i]? = some s → Ow s = true → σ[i]? = some (some (.ref p)) → B p = none
  sep : ∀ (i j : Nat) (s s' : Sl) (p : Addr), δ[i]? = some s → δ[j]? = some s' → Mu s = true → Mu s' = true → σ[i]? = some (some (.ref p)) → σ[j]? = some (some (.ref p)) → i = j
theorem Fr.ext {B S H S' H' : Hp} {σ : St} {δ : List Sl} (f : Fr B S H σ δ) (x : Xt S H S' H') : Fr B S' H' σ δ :=
  ⟨f.len, x.sub, fun b h => f.dB b (x.dom b h), fun i s h => (f.val i s h).imp id fun ⟨v, a, b⟩ => ⟨v, a, b.ext x⟩, f.own, f.sep⟩
theorem Fr.dat {B S H : Hp} {σ : St} {δ : List Sl} (f : Fr B S H σ δ) {i : Nat} {x : PyData} (h : δ[i]? = some (.d x)) : ∃ v, σ[i]? = some (some v) ∧ Dt S v x := by
  rcases f.val i _ h with z | z
  · cases z
  · exact z
/-- a slot stored: data -/
theorem Fr.setD {B S H : Hp} {σ : St} {δ : List Sl} (f : Fr B S H σ δ) {i : Nat} {v : V} {x : PyData} (h : Dt S v x) : Fr B S H (σ.set i (some v)) (δ.set i (.d x)) := by
  have key : ∀ (j : Nat) (s : Sl), (δ.set i (.d x))[j]? = some s → (j = i ∧ s = .d x) ∨ (j ≠ i ∧ δ[j]? = some s) := fun j s e => by
    by_cases hj : j = i
    · subst hj
      have hl : j < (δ.set j (.d x)).length := (List.getElem?_eq_some_iff.mp e).1
      rw [List.length_set] at hl
      rw [List.getElem?_set_self hl] at e
      exact .inl ⟨rfl, (Option.some.inj e).symm⟩
    · rw [List.getElem?_set_ne (Ne.symm hj)] at e
      exact .inr ⟨hj, e⟩
  refine ⟨by rw [List.length_set, List.length_set]; exact f.len, f.sub, f.dB, fun j s e => ?_, fun j s p e o q => ?_, fun j k s s' p e e' m m' q q' => ?_⟩
  · rcases key j s e with ⟨rfl, rfl⟩ | ⟨hj, e1⟩
    · have hl : j < (δ.set j (.d x)).length := (List.getElem?_eq_some_iff.mp e).1
      rw [List.length_set, ← f.len] at hl
      exact .inr ⟨v, by rw [List.getElem?_set_self hl], h⟩
    · rw [List.getElem?_set_ne (Ne.symm hj)]
      exact f.val j s e1
  · rcases key j s e with ⟨rfl, rfl⟩ | ⟨hj, e1⟩
    · cases o
    · rw [List.getElem?_set_ne (Ne.symm hj)] at q
      exact f.own j s p e1 o q
  · rcases key j s e with ⟨rfl, rfl⟩ | ⟨hj, e1⟩
    · cases m
    · rcases key k s' e' with ⟨rfl, rfl⟩ | ⟨hk, e2⟩
      · cases m'
      · rw [List.getElem?_set_ne (Ne.symm hj)] at q
        rw [List.getElem?_set_ne (Ne.symm hk)] at q'
        exact f.sep j k s s' p e1 e2 m m' q q'
/-- .. a new thing of one's own, not yet in the heap ahead -/
theorem Fr.setM {B S H : Hp} {σ : St} {δ : List Sl} (f : Fr B S H σ δ) {i : Nat} {v : V} {s0 : Sl} {H0 : Hp} {S0 : Hp} (f0 : Fr B S0 H0 σ δ) (h : VS S H v s0) (hf : Mu s0 = true → Ow s0 = true ∧ ∀ p, v = .ref p → H0 p = none) : Fr B S H (σ.set i (some v)) (δ.set i s0) := by
  have key : ∀ (j : Nat) (s : Sl), (δ.set i s0)[j]? = some s → (j = i ∧ s = s0 ∧ i < σ.length) ∨ (j ≠ i ∧ δ[j]? = some s) := fun j s e => by
    by_cases hj : j = i
    · subst hj
      have hl : j < (δ.set j s0).length := (List.getElem?_eq_some_iff.mp e).1
      rw [List.length_set] at hl
      rw [List.getElem?_set_self hl] at e
      exact .inl ⟨rfl, (Option.some.inj e).symm, by rw [f.len]; exact hl⟩
    · rw [List.getElem?_set_ne (Ne.symm hj)] at e
      exact .inr ⟨hj, e⟩
  have old : ∀ (j : Nat) (s : Sl) (p : Addr), δ[j]? = some s → Mu s = true → σ[j]? = some (some (.ref p)) → H0 p ≠ none := fun j s p e m q => by
    rcases f0.val j s e with z | ⟨w, a, b⟩
    · rw [z] at m; cases m
    · rw [q] at a; cases a
      obtain ⟨p', e', _, n⟩ := b.mu m
      cases e'
      exact n
  refine ⟨by rw [List.length_set, List.length_set]; exact f.len, f.sub, f.dB, fun j s e => ?_, fun j s p e o q => ?_, fun j k s s' p e e' m m' q q' => ?_⟩
  · rcases key j s e with ⟨rfl, rfl, hl⟩ | ⟨hj, e1⟩
    · exact .inr ⟨v, by rw [List.getElem?_set_self hl], h⟩
    · rw [List.getElem?_set_ne (Ne.symm hj)]
      exact f.val j s e1
  · rcases key j s e with ⟨rfl, rfl, hl⟩ | ⟨hj, e1⟩
    · rw [List.getElem?_set_self hl] at q
      have ev : v = .ref p := Option.some.inj (Option.some.inj q)
      exact f0.dB p ((hf (Ow.mu o)).2 p ev)
    · rw [List.getElem?_set_ne (Ne.symm hj)] at q
      exact f.own j s p e1 o q
  · rcases key j s e with ⟨rfl, rfl, hl⟩ | ⟨hj, e1⟩
    · rcases key k s' e' with ⟨rfl, rfl, hl'⟩ | ⟨hk, e2⟩
      · rfl
      · rw [List.getElem?_set_self hl] at q
        have ev : v = .ref p := Option.some.inj (Option.some.inj q)
        rw [List.getElem?_set_ne (Ne.symm hk)] at q'
        exact absurd ((hf m).2 p ev) (old k s' p e2 m' q')
    · rcases key k s' e' with ⟨rfl, rfl, hl'⟩ | ⟨hk, e2⟩
      · rw [List.getElem?_set_self hl'] at q'
        have ev : v = .ref p := Option.some.inj (Option.some.inj q')
        rw [List.getElem?_set_ne (Ne.symm hj)] at q
        exact absurd ((hf m').2 p ev) (old j s p e1 m q)
      · rw [List.getElem?_set_ne (Ne.symm hj)] at q
        rw [List.getElem?_set_ne (Ne.symm hk)] at q'
        exact f.sep j k s s' p e1 e2 m m' q q'
/-! ### evaluation -/
def Ev (t : TE) (δ : List Sl) (s : Sl) : Prop := ∀ (B S H : Hp) (σ : St) (Q : VK), Fr B S H σ δ → (∀ v S' H', Xt S H S' H' → VS S' H' v s → (Mu s = true → Ow s = true ∧ ∀ p, v = .ref p → H p = none) → Q v H') → t σ H Q
abbrev EvD (t : TE) (δ : List Sl) (x : PyData) : Prop := Ev t δ (.d x)
def EvT (t : TT) (δ : List Sl) (b : Bool) : Prop := ∀ (B S H : Hp) (σ : St) (Q : Bool → Hp → Prop), Fr B S H σ δ → (∀ S' H', Xt S H S' H' → Q b H') → t σ H Q
def EvA (t : TA) (δ : List Sl) (ds : List PyData) : Prop := ∀ (B S H : Hp) (σ : St) (Q : List V → Hp → Prop), Fr B S H σ δ → (∀ vs S' H', Xt S H S' H' → DtAll S' vs ds → Q vs H') → t σ H Q
theorem no_mu {x : PyData} {v : V} {H : Hp} (h : Mu (.d x) = true) : Ow (.d x) = true ∧ ∀ p, v = .ref p → H p = none := by cases h
theorem EvD.mk {t : TE} {δ : List Sl} {x : PyData} (h : ∀ (B S H : Hp) (σ : St) (Q : VK), Fr B S H σ δ → (∀ v S' H', Xt S H S' H' → Dt S' v x → Q v H') → t σ H Q) : EvD t δ x :=
  fun B S H σ Q f q => h B S H σ Q f fun v S' H' a b => q v S' H' a b no_mu
theorem EvD.run {t : TE} {δ : List Sl} {x : PyData} (h : EvD t δ x) {B S H : Hp} {σ : St} {Q : VK} (f : Fr B S H σ δ) (q : ∀ v S' H', Xt S H S' H' → Dt S' v x → Q v H') : t σ H Q :=
  h B S H σ Q f fun v S' H' a b _ => q v S' H' a b
theorem ev_v {δ : List Sl} {i : Nat} {x : PyData} (h : δ[i]? = some (.d x)) : EvD (tVar i) δ x := .mk fun B S H σ Q f q => by
  obtain ⟨v, a, b⟩ := f.dat h
  exact ⟨v, a, q v S H (XB.refl f.sub) b⟩
theorem ev_c {δ : List Sl} {v : V} {x : PyData} (h : ∀ S, Dt S v x) : EvD (tC v) δ x := .mk fun B S H σ Q f q => q v S H (XB.refl f.sub) (h S)
theorem ev_int {δ : List Sl} {i : Int} : EvD (tC (.int i)) δ (.int i) := ev_c fun _ => .int i
theorem ev_bl {δ : List Sl} {b : Bool} : EvD (tC (.bl b)) δ (.bool b) := ev_c fun _ => .bl b
theorem ev_non {δ : List Sl} : EvD (tC .non) δ .none := ev_c fun _ => .non
/-- two, one after the other -/
theorem two {ta tb : TE} {δ : List Sl} {x y : PyData} (ha : EvD ta δ x) (hb : EvD tb δ y) {B S H : Hp} {σ : St} {R : V → V → Hp → Prop} (f : Fr B S H σ δ)
    (q : ∀ v w S' H', Xt S H S' H' → Dt S' v x → Dt S' w y → R v w H') : ta σ H fun v H1 => tb σ H1 fun w H2 => R v w H2 :=
  ha.run f fun v S1 H1 x1 d1 => hb.run (f.ext x1) fun w S2 H2 x2 d2 => q v w S2 H2 (x1.trans x2) (d1.up x2.st) d2
theorem ev_op {r : R2} {ta tb : TE} {δ : List Sl} {x y z : PyData} (ha : EvD ta δ x) (hb : EvD tb δ y)
    (hr : ∀ (S H : Hp) (v w : V) (Q : VK), Same S H → Dt S v x → Dt S w y → (∀ u S' H', Xt S H S' H' → Dt S' u z → Q u H') → r v w H Q) : EvD (tOp r ta tb) δ z :=
  .mk fun B S H σ Q f q => two ha hb f fun v w S1 H1 x1 d1 d2 => hr S1 H1 v w Q x1.sub d1 d2 fun u S2 H2 x2 d3 => q u S2 H2 (x1.trans x2) d3
theorem Dt.isInt {S : Hp} {v : V} {i : Int} (h : Dt S v (.int i)) : v = .int i := by cases h; rfl
theorem Dt.isBl {S : Hp} {v : V} {b : Bool} (h : Dt S v (.bool b)) : v = .bl b := by cases h; rfl
theorem Dt.isNon {S : Hp} {v : V} (h : Dt S v .none) : v = .non := by cases h; rfl
theorem ev_I0 {g : Int → Int → V} {ta tb : TE} {δ : List Sl} {i j : Int} {z : PyData} (ha : EvD ta δ (.int i)) (hb : EvD tb δ (.int j)) (hz : ∀ S, Dt S (g i j) z) : EvD (tOp (rI0 g) ta tb) δ z :=
  ev_op ha hb fun S H v w Q e d1 d2 q => ⟨i, j, d1.isInt, d2.isInt, q _ S H (XB.refl e) (hz S)⟩
theorem ev_I {C : Int → Int → Prop} {g : Int → Int → V} {ta tb : TE} {δ : List Sl} {i j : Int} {z : PyData} (ha : EvD ta δ (.int i)) (hb : EvD tb δ (.int j)) (hc : C i j) (hz : ∀ S, Dt S (g i j) z) : EvD (tOp (rI C g) ta tb) δ z :=
  ev_op ha hb fun S H v w Q e d1 d2 q => ⟨i, j, d1.isInt, d2.isInt, hc, q _ S H (XB.refl e) (hz S)⟩
theorem ev_I0i {g : Int → Int → Int} {ta tb : TE} {δ : List Sl} {i j : Int} (ha : EvD ta δ (.int i)) (hb : EvD tb δ (.int j)) : EvD (tOp (rI0 fun i j => .int (g i j)) ta tb) δ (.int (g i j)) := ev_I0 ha hb fun _ => .int _
theorem ev_I0b {g : Int → Int → Bool} {ta tb : TE} {δ : List Sl} {i j : Int} (ha : EvD ta δ (.int i)) (hb : EvD tb δ (.int j)) : EvD (tOp (rI0 fun i j => .bl (g i j)) ta tb) δ (.bool (g i j)) := ev_I0 ha hb fun _ => .bl _
theorem ev_Ii {C : Int → Int → Prop} {g : Int → Int → Int} {ta tb : TE} {δ : List Sl} {i j : Int} (ha : EvD ta δ (.int i)) (hb : EvD tb δ (.int j)) (hc : C i j) : EvD (tOp (rI C fun i j => .int (g i j)) ta tb) δ (.int (g i j)) := ev_I ha hb hc fun _ => .int _
theorem ev_neg {g : Int → Int} {ta : TE} {δ : List Sl} {i : Int} (ha : EvD ta δ (.int i)) : EvD (tUn (rU fun i => .int (g i)) ta) δ (.int (g i)) :=
  .mk fun B S H σ Q f q => ha.run f fun v S1 H1 x1 d1 => ⟨i, d1.isInt, q _ S1 H1 x1 (.int _)⟩
/-- list or tuple -/
def sq (k : Bool) (ds : List PyData) : PyData := if k then .list ds else .tuple ds
theorem Dt.seq {S : Hp} {v : V} {k : Bool} {ds : List PyData} (h : Dt S v (sq k ds)) : ∃ a vs, v = .ref a ∧ S a = some (if k then .lst vs else .tup vs) ∧ DtAll S vs ds := by
  cases k with
  | true =>
    have h : Dt S v (.list ds) := h
    cases h with
    | lst a b => exact ⟨_, _, rfl, a, b⟩
  | false =>
    have h : Dt S v (.tuple ds) := h
    cases h with
    | tup a b => exact ⟨_, _, rfl, a, b⟩
theorem Dt.sqLT {K : PySem.W.Frag} {S H : Hp} {v : V} {k : Bool} {ds : List PyData} (h : Dt S v (sq k ds)) (e : Same S H) : ∃ a vs, v = .ref a ∧ (SqL K H a vs ∨ SqT K H a vs) ∧ DtAll S vs ds := by
  obtain ⟨a, vs, rfl, b, c⟩ := h.seq
  cases k with
  | true => exact ⟨a, vs, rfl, .inl (SqL.of (e _ _ b)), c⟩
  | false => exact ⟨a, vs, rfl, .inr (SqT.of (e _ _ b)), c⟩
theorem ev_ix {K : PySem.W.Frag} {ta tb : TE} {δ : List Sl} {k : Bool} {ds : List PyData} {i : Int} {x : PyData} (ha : EvD ta δ (sq k ds)) (hb : EvD tb δ (.int i)) (hx : L2.atI ds i = some x) : EvD (tOp (rIx K) ta tb) δ x :=
  ev_op ha hb fun S H v w Q e d1 d2 q => by
    obtain ⟨a, vs, rfl, s, c⟩ := d1.sqLT (K := K) e
    obtain ⟨u, hu, du⟩ := c.atI hx
    rcases s with s | s
    · exact .inl ⟨a, vs, i, u, rfl, d2.isInt, s, hu, q u S H (XB.refl e) du⟩
    · exact .inr (.inl ⟨a, vs, i, u, rfl, d2.isInt, s, hu, q u S H (XB.refl e) du⟩)
/-! arguments, displays -/
theorem eva_nil {δ : List Sl} : EvA tNil δ [] := fun B S H σ Q f q => q [] S H (XB.refl f.sub) .nil
theorem eva_cons {ta : TE} {tr : TA} {δ : List Sl} {x : PyData} {xs : List PyData} (ha : EvD ta δ x) (hr : EvA tr δ xs) : EvA (tCons ta tr) δ (x :: xs) := fun B S H σ Q f q =>
  ha.run f fun v S1 H1 x1 d1 => hr B S1 H1 σ _ (f.ext x1) fun vs S2 H2 x2 d2 => q (v :: vs) S2 H2 (x1.trans x2) (.cons (d1.up x2.st) d2)
theorem sz_small {n : Nat} (h : n ≤ 1000) : n ≤ sizeLine := Nat.le_of_lt (small1000 h)
theorem ev_tup {ta : TA} {δ : List Sl} {xs : List PyData} (ha : EvA ta δ xs) (hz : xs.length ≤ sizeLine := by exact L3.sz_small (by decide)) : EvD (tTup ta) δ (.tuple xs) := .mk fun B S H σ Q f q =>
  ha B S H σ _ f fun vs S1 H1 x1 d1 => ⟨by rw [d1.length]; exact hz, fun p hp => q _ _ _ (x1.trans (Xt.fresh x1.sub hp)) (.tup upd_same (d1.up (same_upd (x1.sub.free hp))))⟩
theorem ev_lst {ta : TA} {δ : List Sl} {xs : List PyData} (ha : EvA ta δ xs) (hz : xs.length ≤ sizeLine := by exact L3.sz_small (by decide)) : EvD (tLst ta) δ (.list xs) := .mk fun B S H σ Q f q =>
  ha B S H σ _ f fun vs S1 H1 x1 d1 => ⟨by rw [d1.length]; exact hz, fun p hp => q _ _ _ (x1.trans (Xt.fresh x1.sub hp)) (.lst upd_same (d1.up (same_upd (x1.sub.free hp))))⟩
/-- a list of one's own -/
theorem ev_lstM {ta : TA} {δ : List Sl} {xs : List PyData} (ha : EvA ta δ xs) (hz : xs.length ≤ sizeLine := by exact L3.sz_small (by decide)) : Ev (tLst ta) δ (.m xs) := fun B S H σ Q f q =>
  ha B S H σ _ f fun vs S1 H1 x1 d1 => ⟨by rw [d1.length]; exact hz, fun p hp => q _ _ _ (x1.trans (Xt.freshM x1.sub hp)) ⟨p, vs, rfl, x1.sub.free hp, upd_same, d1⟩ fun _ => ⟨rfl, fun p' e => by cases e; exact x1.dom _ hp⟩⟩
/-! built-ins by their arguments -/
theorem ev_cb {r : List V → Hp → VK → Prop} {ta : TA} {δ : List Sl} {xs : List PyData} {z : PyData} (ha : EvA ta δ xs)
    (hr : ∀ (S H : Hp) (vs : List V) (Q : VK), Same S H → DtAll S vs xs → (∀ u S' H', Xt S H S' H' → Dt S' u z → Q u H') → r vs H Q) : EvD (tCB r ta) δ z := .mk fun B S H σ Q f q =>
  ha B S H σ _ f fun vs S1 H1 x1 d1 => hr S1 H1 vs Q x1.sub d1 fun u S2 H2 x2 d2 => q u S2 H2 (x1.trans x2) d2
/-! tests -/
theorem evt_test {t : TE} {δ : List Sl} {b : Bool} (h : EvD t δ (.bool b)) : EvT (tTest t) δ b := fun B S H σ Q f q => h.run f fun v S1 H1 x1 d1 => ⟨b, d1.isBl, q S1 H1 x1⟩
theorem evt_b {t : TE} {δ : List Sl} {b : Bool} (h : EvD t δ (.bool b)) : EvT (tB t) δ b := fun B S H σ Q f q => h.run f fun v S1 H1 x1 d1 => ⟨b, d1.isBl, q S1 H1 x1⟩
theorem evt_not {t : TT} {δ : List Sl} {b : Bool} (h : EvT t δ b) : EvT (tNot t) δ (!b) := fun B S H σ Q f q => h B S H σ _ f fun S1 H1 x1 => q S1 H1 x1
theorem evt_or {t u : TT} {δ : List Sl} {b c : Bool} (h : EvT t δ b) (g : b = false → EvT u δ c) : EvT (tOr t u) δ (b || c) := fun B S H σ Q f q => h B S H σ _ f fun S1 H1 x1 => by
  cases b with
  | true => exact iteT (q S1 H1 x1)
  | false => exact iteF (g rfl B S1 H1 σ _ (f.ext x1) fun S2 H2 x2 => q S2 H2 (x1.trans x2))
theorem evt_and {t u : TT} {δ : List Sl} {b c : Bool} (h : EvT t δ b) (g : b = true → EvT u δ c) : EvT (tAnd t u) δ (b && c) := fun B S H σ Q f q => h B S H σ _ f fun S1 H1 x1 => by
  cases b with
  | true => exact iteT (g rfl B S1 H1 σ _ (f.ext x1) fun S2 H2 x2 => q S2 H2 (x1.trans x2))
  | false => exact iteF (q S1 H1 x1)
theorem ev_if {t : TT} {ta tb : TE} {δ : List Sl} {b : Bool} {s : Sl} (h : EvT t δ b) (ha : b = true → Ev ta δ s) (hb : b = false → Ev tb δ s) : Ev (tIf t ta tb) δ s := fun B S H σ Q f q => h B S H σ _ f fun S1 H1 x1 => by
  have fin : ∀ v S2 H2, Xt S1 H1 S2 H2 → VS S2 H2 v s → (Mu s = true → Ow s = true ∧ ∀ p, v = .ref p → H1 p = none) → Q v H2 := fun v S2 H2 x2 a z => q v S2 H2 (x1.trans x2) a fun m => ⟨(z m).1, fun p e => x1.dom p ((z m).2 p e)⟩
  cases b with
  | true => exact iteT (ha rfl B S1 H1 σ _ (f.ext x1) fin)
  | false => exact iteF (hb rfl B S1 H1 σ _ (f.ext x1) fin)
theorem ev_andV {ta tb : TE} {δ : List Sl} {b c : Bool} (h : EvD ta δ (.bool b)) (g : b = true → EvD tb δ (.bool c)) : EvD (tAndV ta tb) δ (.bool (b && c)) := .mk fun B S H σ Q f q => h.run f fun v S1 H1 x1 d1 => by
  refine ⟨b, d1.isBl, ?_⟩
  cases b with
  | true => exact iteT ((g rfl).run (f.ext x1) fun w S2 H2 x2 d2 => q w S2 H2 (x1.trans x2) d2)
  | false => exact iteF (q _ S1 H1 x1 (.bl _))
theorem ev_orV {ta tb : TE} {δ : List Sl} {b c : Bool} (h : EvD ta δ (.bool b)) (g : b = false → EvD tb δ (.bool c)) : EvD (tOrV ta tb) δ (.bool (b || c)) := .mk fun B S H σ Q f q => h.run f fun v S1 H1 x1 d1 => by
  refine ⟨b, d1.isBl, ?_⟩
  cases b with
  | true => exact iteT (q _ S1 H1 x1 (.bl _))
  | false => exact iteF ((g rfl).run (f.ext x1) fun w S2 H2 x2 d2 => q w S2 H2 (x1.trans x2) d2)
theorem ev_notV {ta : TE} {δ : List Sl} {b : Bool} (h : EvD ta δ (.bool b)) : EvD (tNotV ta) δ (.bool (!b)) := .mk fun B S H σ Q f q => h.run f fun v S1 H1 x1 d1 => ⟨b, d1.isBl, q _ S1 H1 x1 (.bl _)⟩
theorem ev_chain {g g' : Int → Int → Bool} {ta tb tc : TE} {δ : List Sl} {i j k : Int} (ha : EvD ta δ (.int i)) (hb : EvD tb δ (.int j)) (hc : g i j = true → EvD tc δ (.int k)) :
    EvD (tChain (rI0 fun i j => .bl (g i j)) (rI0 fun i j => .bl (g' i j)) ta tb tc) δ (.bool (g i j && g' j k)) := .mk fun B S H σ Q f q => two ha hb f fun v w S1 H1 x1 d1 d2 => by
  refine ⟨i, j, d1.isInt, d2.isInt, g i j, rfl, ?_⟩
  cases e : g i j with
  | true => exact iteT ((hc e).run (f.ext x1) fun u S2 H2 x2 d3 => ⟨j, k, d2.isInt, d3.isInt, q _ S2 H2 (x1.trans x2) (by rw [e]; exact .bl _)⟩)
  | false => exact iteF (q _ S1 H1 x1 (by rw [e]; exact .bl _))
def isNoneD : PyData → Bool
  | .none => true
  | _ => false
theorem Dt.dec_non {S : Hp} {v : V} {x : PyData} (h : Dt S v x) : decide (v = .non) = isNoneD x := by
  cases h <;> rfl
theorem ev_isN {ta : TE} {δ : List Sl} {x : PyData} (ha : EvD ta δ x) : EvD (tIsN ta) δ (.bool (isNoneD x)) := .mk fun B S H σ Q f q => ha.run f fun v S1 H1 x1 d1 => q _ S1 H1 x1 (by rw [d1.dec_non]; exact .bl _)
theorem ev_notN {ta : TE} {δ : List Sl} {x : PyData} (ha : EvD ta δ x) : EvD (tNotN ta) δ (.bool (!isNoneD x)) := .mk fun B S H σ Q f q => ha.run f fun v S1 H1 x1 d1 => q _ S1 H1 x1 (by rw [d1.dec_non]; exact .bl _)
/-! == -/
theorem ev_eqD {K : PySem.W.Frag} {ta tb : TE} {δ : List Sl} {x y : PyData} (ha : EvD ta δ x) (hb : EvD tb δ y) (sx : SeqAt.shaped x = true) (sy : SeqAt.shaped y = true) : EvD (tOp (rEqD K) ta tb) δ (.bool (PyData.eqv x y)) :=
  ev_op ha hb fun S H v w Q e d1 d2 q => ⟨x, y, Dt.toDp e x d1, Dt.toDp e y d2, sx, sy, q _ S H (XB.refl e) (.bl _)⟩
theorem ev_neD {K : PySem.W.Frag} {ta tb : TE} {δ : List Sl} {x y : PyData} (ha : EvD ta δ x) (hb : EvD tb δ y) (sx : SeqAt.shaped x = true) (sy : SeqAt.shaped y = true) : EvD (tOp (rNeD K) ta tb) δ (.bool (!PyData.eqv x y)) :=
  ev_op ha hb fun S H v w Q e d1 d2 q => ⟨x, y, Dt.toDp e x d1, Dt.toDp e y d2, sx, sy, q _ S H (XB.refl e) (.bl _)⟩
end L3
/-! L3B: statements, loops, comprehensions, slices, calls over L3A. -/
namespace L3
open PySem L2
/-! ### targets: δ' behind the store; vs the slots that are touched -/
def EvG (g : TG) (δ : List Sl) (x : PyData) (vs : List Nat) (δ' : List Sl) : Prop := ∀ (B S H : Hp) (σ : St) (v : V) (Q : St → Hp → Prop), Fr B S H σ δ → Dt S v x → (∀ σ', Fr B S H σ' δ' → σ'.length = σ.length → (∀ j, j ∉ vs → σ'[j]? = σ[j]?) → Q σ' H) → g v σ H Q
def EvGs (g : TGs) (δ : List Sl) (xs : List PyData) (vs : List Nat) (δ' : List Sl) : Prop := ∀ (B S H : Hp) (σ : St) (ws : List V) (Q : St → Hp → Prop), Fr B S H σ δ → DtAll S ws xs → (∀ σ', Fr B S H σ' δ' → σ'.length = σ.length → (∀ j, j ∉ vs → σ'[j]? = σ[j]?) → Q σ' H) → g ws σ H Q
theorem evg_name {δ : List Sl} {i : Nat} {x : PyData} : EvG (gName i) δ x [i] (δ.set i (.d x)) := fun B S H σ v Q f h q =>
  q _ (f.setD h) (by rw [List.length_set]) fun j hj => by rw [List.getElem?_set_ne (by intro z; subst z; exact hj List.mem_cons_self)]
theorem evgs_nil {δ : List Sl} : EvGs gNil δ [] [] δ := fun B S H σ ws Q f h q => by
  cases h
  exact ⟨rfl, q σ f rfl fun _ _ => rfl⟩
theorem evgs_cons {g : TG} {gs : TGs} {δ δ1 δ2 : List Sl} {x : PyData} {xs : List PyData} {v1 v2 : List Nat} (h1 : EvG g δ x v1 δ1) (h2 : EvGs gs δ1 xs v2 δ2) : EvGs (gCons g gs) δ (x :: xs) (v1 ++ v2) δ2 := fun B S H σ ws Q f h q => by
  cases h with
  | cons a b =>
    refine ⟨_, _, rfl, h1 B S H σ _ _ f a fun σ1 f1 l1 e1 => h2 B S H σ1 _ Q f1 b fun σ2 f2 l2 e2 => q σ2 f2 (l2.trans l1) fun j hj => ?_⟩
    rw [e2 j (fun z => hj (List.mem_append_right _ z)), e1 j (fun z => hj (List.mem_append_left _ z))]
theorem evg_tup {K : PySem.W.Frag} {n : Nat} {gs : TGs} {δ δ' : List Sl} {xs : List PyData} {vs : List Nat} (h : EvGs gs δ xs vs δ') (hn : xs.length = n := by rfl) : EvG (gTup K n gs) δ (.tuple xs) vs δ' := fun B S H σ v Q f d q => by
  cases d with
  | tup a b => exact ⟨_, _, rfl, SqT.of (f.sub _ _ a), by rw [b.length]; exact hn, h B S H σ _ Q f b q⟩
/-- a tuple's or a list's items -/
def gSeq (K : PySem.W.Frag) (n : Nat) (t : TGs) : TG := fun v σ H Q => gTup K n t v σ H Q ∨ gUnl K n t v σ H Q
theorem pg_seq {X : Cx} {es : List Expr} {k : Nat} {t : TGs} {n : Nat} {pos : Pos} (hc : X.calm = true) (h : PGs X es t)
    (hn : (assignEach es X.env).length = n := by rfl) (hst : (assignEach es X.env).findIdx? (·.1) = none := by rfl) : PG X (.Tuple es k pos) (gSeq X.K n t) :=
  ⟨fun pins s σ H v u Q I r hw => by
    rcases hw with z | z
    · exact (pg_tup hc h hn hst).run pins s σ H v u Q I r z
    · exact (pg_unl hc h hn hst).run pins s σ H v u Q I r z⟩
theorem evg_seq {K : PySem.W.Frag} {n : Nat} {gs : TGs} {δ δ' : List Sl} {xs : List PyData} {vs : List Nat} {k : Bool} (h : EvGs gs δ xs vs δ') (hn : xs.length = n := by rfl) : EvG (gSeq K n gs) δ (sq k xs) vs δ' := fun B S H σ v Q f d q => by
  cases k with
  | false => exact .inl (evg_tup h hn B S H σ v Q f d q)
  | true =>
    have d : Dt S v (.list xs) := d
    cases d with
    | lst a b => exact .inr ⟨_, _, rfl, SqL.of (f.sub _ _ a), by rw [b.length]; exact hn, h B S H σ _ Q f b q⟩
/-! ### what is walked -/
structure ItOk (J : It) (S : Hp) (ds : List PyData) : Prop where
  go : ∀ i H, Same S H → i < ds.length → J.go i H
  stop : ∀ H, Same S H → J.stop ds.length H
  yld : ∀ i H x H' S1, Same S S1 → Same S1 H → i < ds.length → J.yld i H x H' → ∃ S2 d, Xt S1 H S2 H' ∧ ds[i]? = some d ∧ Dt S2 x d
def EvI (wi : TI) (δ : List Sl) (ds : List PyData) : Prop := ∀ (B S H : Hp) (σ : St) (R : It → Hp → Prop), Fr B S H σ δ → (∀ J S' H', Xt S H S' H' → ItOk J S' ds → R J H') → wi σ H R
theorem itok_list {K : PySem.W.Frag} {S : Hp} {a : Addr} {vs : List V} {ds : List PyData} (h : S a = some (.lst vs)) (c : DtAll S vs ds) : ItOk (Itl K a) S ds where
  go := fun i H e hi => ⟨vs, vs[i]'(by rw [c.length]; exact hi), SqL.of (e _ _ h), List.getElem?_eq_getElem _⟩
  stop := fun H e => ⟨vs, SqL.of (e _ _ h), Nat.le_of_eq c.length⟩
  yld := fun i H x H' S1 e1 e2 hi y => by
    obtain ⟨rfl, y⟩ := y
    have hx := y vs (SqL.of (e2 _ _ (e1 _ _ h)))
    obtain ⟨d, hd, dd⟩ := c.getV hx
    exact ⟨S1, d, XB.refl e2, hd, dd.up e1⟩
theorem itok_tup {K : PySem.W.Frag} {S : Hp} {a : Addr} {vs : List V} {ds : List PyData} (h : S a = some (.tup vs)) (c : DtAll S vs ds) : ItOk (Itt K a) S ds where
  go := fun i H e hi => ⟨vs, vs[i]'(by rw [c.length]; exact hi), SqT.of (e _ _ h), List.getElem?_eq_getElem _⟩
  stop := fun H e => ⟨vs, SqT.of (e _ _ h), Nat.le_of_eq c.length⟩
  yld := fun i H x H' S1 e1 e2 hi y => by
    obtain ⟨rfl, y⟩ := y
    have hx := y vs (SqT.of (e2 _ _ (e1 _ _ h)))
    obtain ⟨d, hd, dd⟩ := c.getV hx
    exact ⟨S1, d, XB.refl e2, hd, dd.up e1⟩
/-- a list or a tuple -/
def iSeq (K : PySem.W.Frag) (tl : TE) : TI := fun σ H R => tl σ H fun x H1 => ∃ a, x = .ref a ∧ (((∃ xs, SqL K H1 a xs) ∧ R (Itl K a) H1) ∨ ((∃ xs, SqT K H1 a xs) ∧ R (Itt K a) H1))
theorem pi_seq {X : Cx} {tg l : Expr} {tl : TE} (hl : PE X l tl) : PI X tg l (iSeq X.K tl) := by
  refine ⟨fun pins s σ H R I h => ?_⟩
  refine thn (hl.run pins s σ H _ I h) fun v s1 ⟨x, H1, I1, r1, q1⟩ => ?_
  obtain ⟨a, e, ⟨⟨xs, hq⟩, q⟩ | ⟨⟨xs, hq⟩, q⟩⟩ := q1
  · subst e
    cases r1
    obtain ⟨its, rv, p, hz⟩ := I1.list hq
    refine wpAny_pyIter_list p.isList ?_
    refine ⟨s1.heap.objs.size, [s1.heap.objs.size], _, _, H1, rfl, I1.kept (t' := s1.toks) fun b o e => Heap.get?_push_of_some _ e, turn_list a _, ⟨_, Heap.get?_push_size _ rfl, rfl, rfl⟩, fun b hb => ?_, q⟩
    have e : b = s1.heap.objs.size := by simpa using hb
    subst e
    exact I1.fpOk (Nat.le_refl _) (I1.hok.fresh (Nat.le_refl _))
  · subst e
    cases r1
    obtain ⟨its, rv, p, hz⟩ := I1.tuple hq
    refine wpAny_pyIter_tuple (show s1.heap.IsTuple a its.toArray from p) ?_
    refine ⟨s1.heap.objs.size, [s1.heap.objs.size], _, _, H1, rfl, I1.kept (t' := s1.toks) fun b o e => Heap.get?_push_of_some _ e, turn_tuple a _, ⟨_, Heap.get?_push_size _ rfl, rfl, rfl⟩, fun b hb => ?_, q⟩
    have e : b = s1.heap.objs.size := by simpa using hb
    subst e
    exact I1.fpOk (Nat.le_refl _) (I1.hok.fresh (Nat.le_refl _))
theorem evi_seq {K : PySem.W.Frag} {tl : TE} {δ : List Sl} {k : Bool} {ds : List PyData} (h : EvD tl δ (sq k ds)) : EvI (iSeq K tl) δ ds := fun B S H σ R f q => h.run f fun v S1 H1 x1 d1 => by
  obtain ⟨a, vs, rfl, b, c⟩ := d1.seq
  cases k with
  | true => exact ⟨a, rfl, .inl ⟨⟨vs, SqL.of (x1.sub _ _ b)⟩, q _ S1 H1 x1 (itok_list b c)⟩⟩
  | false => exact ⟨a, rfl, .inr ⟨⟨vs, SqT.of (x1.sub _ _ b)⟩, q _ S1 H1 x1 (itok_tup b c)⟩⟩
theorem evi_range {ta : TA} {δ : List Sl} {n : Int} (h : EvA ta δ [.int n]) (h0 : 0 ≤ n) (h1 : n < 2 ^ 62) : EvI (iRng1 ta) δ ((List.range n.toNat).map fun (i : Nat) => PyData.int (i : Int)) := fun B S H σ R f q =>
  h B S H σ _ f fun vs S1 H1 x1 d1 => by
    cases d1 with
    | cons a b =>
      cases a
      cases b
      refine ⟨n, rfl, by omega, h1, q _ S1 H1 x1 ⟨fun i H e hi => ?_, fun H e => ?_, fun i H x H' S2 e1 e2 hi y => ?_⟩⟩
      · rw [List.length_map, List.length_range] at hi
        exact hi
      · show n.toNat ≤ _
        rw [List.length_map, List.length_range]
        exact Nat.le_refl _
      · obtain ⟨rfl, rfl⟩ := y
        rw [List.length_map, List.length_range] at hi
        refine ⟨S2, .int (i : Int), XB.refl e2, by rw [List.getElem?_map, List.getElem?_range hi] <;> rfl, ?_⟩
        rw [Int.zero_add]
        exact .int _
/-- enumerate of a list -/
theorem evi_enum {K : PySem.W.Frag} {ta : TA} {δ : List Sl} {ds : List PyData} (h : EvA ta δ [.list ds]) : EvI (iEnum K ta) δ (ds.mapIdx fun i d => .tuple [.int (i : Int), d]) := fun B S H σ R f q =>
  h B S H σ _ f fun vs S1 H1 x1 d1 => by
    cases d1 with
    | cons a b =>
      cases b
      cases a with
      | @lst p vs _ hp c =>
        refine ⟨p, vs, rfl, SqL.of (x1.sub _ _ hp), q _ S1 H1 x1 ⟨fun i H e hi => ?_, fun H e => ?_, fun i H x H' S2 e1 e2 hi y => ?_⟩⟩
        · rw [List.length_mapIdx] at hi
          exact ⟨vs, vs[i]'(by rw [c.length]; exact hi), SqL.of (e _ _ hp), List.getElem?_eq_getElem _⟩
        · rw [List.length_mapIdx]
          exact ⟨vs, SqL.of (e _ _ hp), Nat.le_of_eq c.length⟩
        · obtain ⟨T, x0, rfl, hT, rfl, y⟩ := y
          obtain ⟨d, hd, dd⟩ := c.getV (y vs (SqL.of (e2 _ _ (e1 _ _ hp))))
          refine ⟨upd S2 T (.tup [.int (i : Nat), x0]), _, Xt.fresh e2 hT, by rw [List.getElem?_mapIdx, hd] <;> rfl, .tup upd_same (.cons (.int _) (.one ((dd.up e1).up (same_upd (e2.free hT)))))⟩
/-- zip of two lists or of two tuples of one length -/
theorem evi_zip {K : PySem.W.Frag} {ta : TA} {δ : List Sl} {k : Bool} {ds es : List PyData} (h : EvA ta δ [sq k ds, sq k es]) (hl : ds.length = es.length) : EvI (RZ.iZipA K ta) δ ((ds.zip es).map fun p => .tuple [p.1, p.2]) := fun B S H σ R f q =>
  h B S H σ _ f fun vs S1 H1 x1 d1 => by
    cases d1 with
    | cons a b =>
      cases b with
      | cons a' b' =>
        cases b'
        obtain ⟨p, xs, rfl, hp, c⟩ := a.seq
        obtain ⟨p', ys, rfl, hp', c'⟩ := a'.seq
        have hlen : ((ds.zip es).map fun p => PyData.tuple [p.1, p.2]).length = ds.length := by rw [List.length_map, List.length_zip, hl, Nat.min_self]
        have e1 := c.length
        have e2 := c'.length
        have item : ∀ {i : Nat} {x y : V} {S2 H T}, Same S1 S2 → Same S2 H → H T = none → xs[i]? = some x → ys[i]? = some y → ∃ S3 d, Xt S2 H S3 (upd H T (.tup [x, y])) ∧ ((ds.zip es).map fun p => PyData.tuple [p.1, p.2])[i]? = some d ∧ Dt S3 (.ref T) d := fun {i x y S2 H T} e3 e4 hT hx hy => by
          obtain ⟨d, hd, dd⟩ := c.getV hx
          obtain ⟨d', hd', dd'⟩ := c'.getV hy
          refine ⟨upd S2 T (.tup [x, y]), .tuple [d, d'], Xt.fresh e4 hT, ?_, .tup upd_same (.cons ((dd.up e3).up (same_upd (e4.free hT))) (.one ((dd'.up e3).up (same_upd (e4.free hT)))))⟩
          rw [List.getElem?_map, (List.getElem?_zip_eq_some (z := (d, d'))).mpr ⟨hd, hd'⟩] <;> rfl
        cases k with
        | true =>
          refine ⟨p, p', xs, ys, rfl, .inl ⟨SqL.of (x1.sub _ _ hp), SqL.of (x1.sub _ _ hp'), q _ S1 H1 x1 ⟨fun i H e hi => ?_, fun H e => ?_, fun i H x H' S2 e3 e4 hi y => ?_⟩⟩⟩
          · rw [hlen] at hi
            exact ⟨xs, ys, xs[i]'(by omega), ys[i]'(by omega), SqL.of (e _ _ hp), SqL.of (e _ _ hp'), List.getElem?_eq_getElem _, List.getElem?_eq_getElem _⟩
          · rw [hlen]
            exact ⟨xs, ys, SqL.of (e _ _ hp), SqL.of (e _ _ hp'), .inl (Nat.le_of_eq e1)⟩
          · obtain ⟨T, x0, y0, rfl, hT, rfl, hx, hy⟩ := y
            exact item e3 e4 hT (hx xs (SqL.of (e4 _ _ (e3 _ _ hp)))) (hy ys (SqL.of (e4 _ _ (e3 _ _ hp'))))
        | false =>
          refine ⟨p, p', xs, ys, rfl, .inr ⟨SqT.of (x1.sub _ _ hp), SqT.of (x1.sub _ _ hp'), q _ S1 H1 x1 ⟨fun i H e hi => ?_, fun H e => ?_, fun i H x H' S2 e3 e4 hi y => ?_⟩⟩⟩
          · rw [hlen] at hi
            exact ⟨xs, ys, xs[i]'(by omega), ys[i]'(by omega), SqT.of (e _ _ hp), SqT.of (e _ _ hp'), List.getElem?_eq_getElem _, List.getElem?_eq_getElem _⟩
          · rw [hlen]
            exact ⟨xs, ys, SqT.of (e _ _ hp), SqT.of (e _ _ hp'), .inl (Nat.le_of_eq e1)⟩
          · obtain ⟨T, x0, y0, rfl, hT, rfl, hx, hy⟩ := y
            exact item e3 e4 hT (hx xs (SqT.of (e4 _ _ (e3 _ _ hp)))) (hy ys (SqT.of (e4 _ _ (e3 _ _ hp'))))
/-! ### comprehensions -/
def wipeD (δ : List Sl) : List Nat → List Sl
  | [] => δ
  | v :: vs => (wipeD δ vs).set v .u
theorem wipeD_length (δ : List Sl) : ∀ vs : List Nat, (wipeD δ vs).length = δ.length
  | [] => rfl
  | v :: vs => by unfold wipeD; rw [List.length_set, wipeD_length δ vs]
theorem wipeD_get {δ : List Sl} {i : Nat} {s : Sl} : ∀ {vs : List Nat}, (wipeD δ vs)[i]? = some s → s = .u ∨ (i ∉ vs ∧ δ[i]? = some s)
  | [], h => .inr ⟨by simp, h⟩
  | v :: vs, h => by
    unfold wipeD at h
    by_cases hi : v = i
    · subst hi
      have hl : v < ((wipeD δ vs).set v .u).length := (List.getElem?_eq_some_iff.mp h).1
      rw [List.length_set] at hl
      rw [List.getElem?_set_self hl] at h
      exact .inl (Option.some.inj h).symm
    · rw [List.getElem?_set_ne hi] at h
      rcases wipeD_get h with z | ⟨a, b⟩
      · exact .inl z
      · exact .inr ⟨by intro z; rcases List.mem_cons.mp z with z | z; exact hi z.symm; exact a z, b⟩
theorem wipe_in {σ : St} {i : Nat} : ∀ {vs : List Nat}, i ∈ vs → i < σ.length → (wipe σ vs)[i]? = some none
  | v :: vs, h, hl => by
    unfold wipe
    by_cases hi : v = i
    · subst hi
      rw [List.getElem?_set_self (by rw [wipe_length]; exact hl)]
    · rw [List.getElem?_set_ne hi]
      exact wipe_in (by rcases List.mem_cons.mp h with z | z; exact absurd z.symm hi; exact z) hl
theorem Fr.wipe {B S H : Hp} {σ : St} {δ : List Sl} (f : Fr B S H σ δ) (vs : List Nat) : Fr B S H (L2.wipe σ vs) (wipeD δ vs) := by
  have up : ∀ {i : Nat} {p : Addr}, (L2.wipe σ vs)[i]? = some (some (.ref p)) → σ[i]? = some (some (.ref p)) := fun h => (wipe_some h).1
  refine ⟨by rw [wipe_length, wipeD_length]; exact f.len, f.sub, f.dB, fun i s h => ?_, fun i s p h o q => ?_, fun i j s s' p h h' m m' q q' => ?_⟩
  · rcases wipeD_get h with z | ⟨a, b⟩
    · exact .inl z
    · rcases f.val i s b with z | ⟨v, e, d⟩
      · exact .inl z
      · exact .inr ⟨v, by rw [wipe_out a]; exact e, d⟩
  · rcases wipeD_get h with z | ⟨a, b⟩
    · subst z; cases o
    · exact f.own i s p b o (up q)
  · rcases wipeD_get h with z | ⟨a, b⟩
    · subst z; cases m
    · rcases wipeD_get h' with z | ⟨a', b'⟩
      · subst z; cases m'
      · exact f.sep i j s s' p b b' m m' (up q) (up q')
theorem wipe_eq {σ σ' : St} {vs ws : List Nat} (hl : σ'.length = (wipe σ vs).length) (h : ∀ j, j ∉ ws → σ'[j]? = (wipe σ vs)[j]?) (hs : ∀ j, j ∈ ws → j ∈ vs) : wipe σ' vs = wipe σ vs := by
  rw [wipe_length] at hl
  refine List.ext_getElem? fun j => ?_
  by_cases hj : j ∈ vs
  · by_cases hz : j < σ.length
    · rw [wipe_in hj (by rw [hl]; exact hz), wipe_in hj hz]
    · rw [List.getElem?_eq_none (by rw [wipe_length, hl]; exact Nat.le_of_not_lt hz), List.getElem?_eq_none (by rw [wipe_length]; exact Nat.le_of_not_lt hz)]
  · rw [wipe_out hj, wipe_out hj, h j (fun z => hj (hs j z)), wipe_out hj]
/-- each item gives one, or none (ks) -/
theorem ev_lcO {wi : TI} {g : TG} {tt : TT} {te : TE} {vs : List Nat} {δ : List Sl} {ds : List PyData} (ks : List (Option PyData)) (hi : EvI wi δ ds) (hk : ks.length = ds.length) (hz : ds.length ≤ sizeLine)
    (hs : ∀ (i : Nat) (d : PyData) (r : Option PyData), ds[i]? = some d → ks[i]? = some r → ∃ ws δ', EvG g (wipeD δ vs) d ws δ' ∧ (∀ j, j ∈ ws → j ∈ vs) ∧ EvT tt δ' r.isSome ∧ ∀ e, r = some e → EvD te δ' e) :
    EvD (tLc wi g tt te vs) δ (.list (ks.filterMap id)) := .mk fun B S H σ Q f q => hi B S H σ _ f fun J S1 H1 x1 ok => by
  intro D hD
  have fL : ∀ i, ((ks.take i).filterMap id).length ≤ i := fun i => Nat.le_trans (List.length_filterMap_le _ _) (by rw [List.length_take]; omega)
  refine ⟨fun i m H2 => m = ds.length - i ∧ i ≤ ds.length ∧ ∃ S2 acc, Xt S1 H1 S2 H2 ∧ S2 D = none ∧ H2 D = some (.lst acc) ∧ DtAll S2 acc ((ks.take i).filterMap id), ⟨ds.length, by simp, Nat.zero_le _, S1, [], Xt.freshM x1.sub hD, x1.sub.free hD, upd_same, by simpa using DtAll.nil⟩, ?_⟩
  rintro i m H2 ⟨rfl, hle, S2, acc, x2, sD, hD2, da⟩
  have eS : Same S1 S2 := x2.st
  have eH : Same S1 H2 := eS.trans x2.sub
  by_cases hlt : i < ds.length
  · refine .inr ⟨ok.go i H2 eH hlt, fun H' => i + 1 ≤ ds.length ∧ ∃ S2 acc, Xt S1 H1 S2 H' ∧ S2 D = none ∧ H' D = some (.lst acc) ∧ DtAll S2 acc ((ks.take (i + 1)).filterMap id), fun H' h => ⟨ds.length - (i + 1), by omega, rfl, h⟩, fun x H' y => ?_⟩
    obtain ⟨S3, d, x3, hd, dd⟩ := ok.yld i H2 x H' S2 eS x2.sub hlt y
    obtain ⟨r, hr⟩ : ∃ r, ks[i]? = some r := ⟨_, List.getElem?_eq_getElem (by rw [hk]; exact hlt)⟩
    obtain ⟨ws, δ', hg, hws, ht, he⟩ := hs i d r hd hr
    have f3 : Fr B S3 H' (wipe σ vs) (wipeD δ vs) := (((f.ext x1).ext x2).ext x3).wipe vs
    have ekeep : (ks.take (i + 1)).filterMap id = (ks.take i).filterMap id ++ r.toList := by
      rw [List.take_add_one, hr, List.filterMap_append]
      cases r <;> rfl
    refine hg B S3 H' _ x _ f3 dd fun σ' f4 l4 e4 => ⟨wipe_eq l4 e4 hws, ?_⟩
    have D3 : H' D = some (.lst acc) := x3.same _ _ hD2
    have s3 : S3 D = none := still x3 sD (by rw [hD2]; intro z; cases z)
    refine ht B S3 H' σ' _ f4 fun S4 H4 x4 => ?_
    have D4 : H4 D = some (.lst acc) := x4.same _ _ D3
    have s4 : S4 D = none := still x4 s3 (by rw [D3]; intro z; cases z)
    cases r with
    | none =>
      refine iteF ⟨hlt, S4, acc, (x2.trans x3).trans x4, s4, D4, ?_⟩
      rw [ekeep]
      simpa using (da.up x3.st).up x4.st
    | some e =>
      refine iteT ((he e rfl).run (f4.ext x4) fun v S5 H5 x5 d5 => ?_)
      have D5 : H5 D = some (.lst acc) := x5.same _ _ D4
      have s5 : S5 D = none := still x5 s4 (by rw [D4]; intro z; cases z)
      have x15 : Xt S1 H1 S5 H5 := ((x2.trans x3).trans x4).trans x5
      refine ⟨acc, D5, ?_, hlt, S5, acc ++ [v], ⟨x15.st, fun b o hm hb e => ?_, fun b e => ?_, fun b o e => ?_, x15.new⟩, s5, upd_same, ?_⟩
      · have := da.length
        have := fL i
        omega
      · have nb : b ≠ D := fun z => by subst z; rw [hD] at e; cases e
        rw [upd_ne nb]
        exact x15.keep b o hm hb e
      · by_cases hb : b = D
        · subst hb; exact hD
        · rw [upd_ne hb] at e; exact x15.dom b e
      · have nb : b ≠ D := fun z => by subst z; rw [s5] at e; cases e
        rw [upd_ne nb]
        exact x15.sub b o e
      · rw [ekeep]
        exact (((da.up x3.st).up x4.st).up x5.st).append (.one d5)
  · have e : i = ds.length := by omega
    subst e
    refine .inl ⟨ok.stop H2 eH, q (.ref D) (upd S2 D (.lst acc)) H2 ?_ (.lst upd_same ?_)⟩
    · have x12 := x1.trans x2
      refine ⟨x12.st.trans (same_upd sD), x12.keep, x12.dom, fun b o e => ?_, fun b o e => ?_⟩
      · by_cases hb : b = D
        · subst hb; rw [upd_same] at e; rw [hD2]; exact e
        · rw [upd_ne hb] at e; exact x12.sub b o e
      · by_cases hb : b = D
        · subst hb; exact .inr (x1.dom _ hD)
        · rw [upd_ne hb] at e; exact x12.new b o e
    · have e2 : ks.take ds.length = ks := by rw [← hk, List.take_length]
      rw [e2] at da
      exact da.up (same_upd sD)
/-- every item gives one -/
theorem ev_lc {wi : TI} {g : TG} {te : TE} {vs : List Nat} {δ : List Sl} {ds : List PyData} (es : List PyData) (hi : EvI wi δ ds) (hk : es.length = ds.length) (hz : ds.length ≤ sizeLine)
    (hs : ∀ (i : Nat) (d e : PyData), ds[i]? = some d → es[i]? = some e → ∃ ws δ', EvG g (wipeD δ vs) d ws δ' ∧ (∀ j, j ∈ ws → j ∈ vs) ∧ EvD te δ' e) :
    EvD (tLc wi g tYes te vs) δ (.list es) := by
  have h := ev_lcO (wi := wi) (g := g) (tt := tYes) (te := te) (vs := vs) (δ := δ) (ds := ds) (es.map some) hi (by rw [List.length_map]; exact hk) hz fun i d r hd hr => by
    rw [List.getElem?_map] at hr
    cases he : es[i]? with
    | none => rw [he] at hr; cases hr
    | some e =>
      rw [he] at hr
      cases hr
      obtain ⟨ws, δ', a, b, c⟩ := hs i d e hd he
      exact ⟨ws, δ', a, b, fun B S H σ Q f q => q S H (XB.refl f.sub), fun e' z => by cases z; exact c⟩
  rwa [List.filterMap_map, show ((id : Option PyData → Option PyData) ∘ some) = some from rfl, List.filterMap_some] at h
/-! ### slices -/
def EvO (t : TO) (δ : List Sl) (o : Option Int) : Prop := ∀ (B S H : Hp) (σ : St) (Q : Option Int → Hp → Prop), Fr B S H σ δ → (∀ S' H', Xt S H S' H' → Q o H') → t σ H Q
theorem evo_none {δ : List Sl} : EvO tNoPart δ none := fun B S H σ Q f q => q S H (XB.refl f.sub)
theorem evo_some {te : TE} {δ : List Sl} {i : Int} (h : EvD te δ (.int i)) : EvO (tPart te) δ (some i) := fun B S H σ Q f q => h.run f fun v S1 H1 x1 d1 => ⟨i, d1.isInt, q S1 H1 x1⟩
def cutD (xs : List PyData) (lo hi : Option Int) : List PyData := (xs.drop (HT.sIx xs.length 0 lo)).take (HT.sIx xs.length xs.length hi - HT.sIx xs.length 0 lo)
theorem DtAll.cut {S : Hp} {vs : List V} {ds : List PyData} (h : DtAll S vs ds) (lo hi : Option Int) : DtAll S (cutV vs lo hi) (cutD ds lo hi) := by
  unfold cutV cutD
  rw [h.length]
  exact (h.drop _).take _
def rSlX (K : PySem.W.Frag) : V → Option Int → Option Int → Hp → VK → Prop := fun x lo hi H Q => rSlL K x lo hi H Q ∨ rSlA K x lo hi H Q
theorem sl_any {X : Cx} : SlR X (rSlX X.K) := SlR.or sl_list sl_tupA
theorem ev_slice {K : PySem.W.Frag} {te : TE} {tl th : TO} {δ : List Sl} {k : Bool} {ds : List PyData} {lo hi : Option Int} (he : EvD te δ (sq k ds)) (hl : EvO tl δ lo) (hh : EvO th δ hi) : EvD (tSl (rSlX K) te tl th) δ (sq k (cutD ds lo hi)) :=
  .mk fun B S H σ Q f q => he.run f fun v S1 H1 x1 d1 => hl B S1 H1 σ _ (f.ext x1) fun S2 H2 x2 => hh B S2 H2 σ _ ((f.ext x1).ext x2) fun S3 H3 x3 => by
    have x13 := (x1.trans x2).trans x3
    obtain ⟨a, vs, rfl, b, c⟩ := ((d1.up x2.st).up x3.st).seq
    cases k with
    | true => exact .inl ⟨a, vs, rfl, SqL.of (x3.sub _ _ b), fun p hp => q _ _ _ (x13.trans (Xt.fresh x3.sub hp)) (.lst upd_same ((c.cut lo hi).up (same_upd (x3.sub.free hp))))⟩
    | false =>
      refine .inr ⟨a, vs, rfl, SqT.of (x3.sub _ _ b), fun hw => ?_, fun hw p hp => q _ _ _ (x13.trans (Xt.fresh x3.sub hp)) (.tup upd_same ((c.cut lo hi).up (same_upd (x3.sub.free hp))))⟩
      have e : cutD ds lo hi = ds := by
        rw [c.length] at hw
        unfold cutD
        rw [hw.1, hw.2, List.drop_zero, Nat.sub_zero, List.take_length]
      rw [e] at q
      exact q _ S3 H3 x13 (.tup b c)
/-! ### sums of lists, of tuples -/
def rCatX (K : PySem.W.Frag) : R2 := fun x y H Q => rCatA K x y H Q ∨ rCat x y H Q
theorem op_catX {X : Cx} : OpR X (binaryOp .Add) (rCatX X.K) := OpR.or op_catA op_cat
theorem ev_cat {K : PySem.W.Frag} {ta tb : TE} {δ : List Sl} {k : Bool} {xs ys : List PyData} (ha : EvD ta δ (sq k xs)) (hb : EvD tb δ (sq k ys)) (hz : xs.length + ys.length ≤ sizeLine) : EvD (tOp (rCatX K) ta tb) δ (sq k (xs ++ ys)) :=
  ev_op ha hb fun S H v w Q e d1 d2 q => by
    obtain ⟨a, vs, rfl, h1, c1⟩ := d1.seq
    obtain ⟨b, ws, rfl, h2, c2⟩ := d2.seq
    cases k with
    | true => exact .inr ⟨a, b, vs, ws, rfl, rfl, e _ _ h1, e _ _ h2, by rw [c1.length, c2.length]; exact hz, fun p hp => q _ _ _ (Xt.fresh e hp) (.lst upd_same ((c1.append c2).up (same_upd (e.free hp))))⟩
    | false =>
      refine .inl ⟨a, b, vs, ws, rfl, rfl, SqT.of (e _ _ h1), SqT.of (e _ _ h2), by rw [c1.length, c2.length]; exact hz, fun z => ?_, fun _ z => ?_, fun _ _ p hp => q _ _ _ (Xt.fresh e hp) (.tup upd_same ((c1.append c2).up (same_upd (e.free hp))))⟩
      · subst z
        cases c1
        exact q _ S H (XB.refl e) (.tup h2 c2)
      · subst z
        cases c2
        rw [List.append_nil] at q
        exact q _ S H (XB.refl e) (.tup h1 c1)
theorem flat_reps {α : Type} (x : α) : ∀ n : Nat, (List.replicate n [x]).flatten = List.replicate n x
  | 0 => rfl
  | n + 1 => by rw [List.replicate_succ, List.flatten_cons, flat_reps x n]; rfl
theorem DtAll.rep {S : Hp} {v : V} {x : PyData} (h : Dt S v x) : ∀ n : Nat, DtAll S (List.replicate n v) (List.replicate n x)
  | 0 => .nil
  | n + 1 => .cons h (DtAll.rep h n)
/-- [x] * n -/
theorem ev_rep1 {ta tb : TE} {δ : List Sl} {x : PyData} {n : Nat} (ha : EvD ta δ (.list [x])) (hb : EvD tb δ (.int (n : Int))) (hz : n ≤ 1000) : EvD (tOp rRep ta tb) δ (.list (List.replicate n x)) :=
  ev_op ha hb fun S H v w Q e d1 d2 q => by
    cases d1 with
    | lst h1 c1 =>
      cases c1 with
      | cons a b =>
        cases b
        refine ⟨_, (n : Int), _, rfl, d2.isInt, e _ _ h1, by omega, by omega, ?_, fun p hp => q _ _ _ (Xt.fresh e hp) (.lst upd_same ?_)⟩
        · rw [List.length_singleton, Int.toNat_natCast, Nat.one_mul]
          exact sz_small hz
        · rw [Int.toNat_natCast, flat_reps]
          exact (DtAll.rep a n).up (same_upd (e.free hp))
/-! ### built-ins -/
def rLen (K : PySem.W.Frag) : List V → Hp → VK → Prop := fun xs H Q => ∃ p ys, xs = [.ref p] ∧ (SqL K H p ys ∨ SqT K H p ys) ∧ Q (.int ys.length) H
theorem ev_len {K : PySem.W.Frag} {ta : TE} {δ : List Sl} {k : Bool} {ds : List PyData} (ha : EvD ta δ (sq k ds)) : EvD (tCB (rLen K) (tCons ta tNil)) δ (.int ds.length) :=
  ev_cb (eva_cons ha eva_nil) fun S H vs Q e d q => by
    cases d with
    | cons a b =>
      cases b
      obtain ⟨p, ys, rfl, h, c⟩ := a.sqLT (K := K) e
      exact ⟨p, ys, rfl, h, by rw [c.length]; exact q _ S H (XB.refl e) (.int _)⟩
theorem ev_abs {ta : TE} {δ : List Sl} {i : Int} (ha : EvD ta δ (.int i)) : EvD (tCB (fun xs H Q => ∃ i : Int, xs = [.int i] ∧ Q (.int (if i < 0 then -i else i)) H) (tCons ta tNil)) δ (.int (if i < 0 then -i else i)) :=
  ev_cb (eva_cons ha eva_nil) fun S H vs Q e d q => by
    cases d with
    | cons a b =>
      cases b
      cases a
      exact ⟨i, rfl, q _ S H (XB.refl e) (.int _)⟩
abbrev rInt1 : List V → Hp → VK → Prop := fun xs H Q => (∃ i : Int, xs = [.int i] ∧ Q (.int i) H) ∨ ∃ k : Bool, xs = [.bl k] ∧ Q (.int (if k then 1 else 0)) H
theorem ev_int1 {ta : TE} {δ : List Sl} {i : Int} (ha : EvD ta δ (.int i)) : EvD (tCB rInt1 (tCons ta tNil)) δ (.int i) :=
  ev_cb (eva_cons ha eva_nil) fun S H vs Q e d q => by
    cases d with
    | cons a b =>
      cases b
      cases a
      exact .inl ⟨i, rfl, q _ S H (XB.refl e) (.int _)⟩
theorem ev_intB {ta : TE} {δ : List Sl} {k : Bool} (ha : EvD ta δ (.bool k)) : EvD (tCB rInt1 (tCons ta tNil)) δ (.int (if k then 1 else 0)) :=
  ev_cb (eva_cons ha eva_nil) fun S H vs Q e d q => by
    cases d with
    | cons a b =>
      cases b
      cases a
      exact .inr ⟨k, rfl, q _ S H (XB.refl e) (.int _)⟩
abbrev rTupleOf (K : PySem.W.Frag) : List V → Hp → VK → Prop := fun xs H Q => ∃ p ys, xs = [.ref p] ∧ ((SqL K H p ys ∧ ∀ l, H l = none → Q (.ref l) (upd H l (.tup ys))) ∨ (SqT K H p ys ∧ Q (.ref p) H))
theorem ev_tupleOf {K : PySem.W.Frag} {ta : TE} {δ : List Sl} {k : Bool} {ds : List PyData} (ha : EvD ta δ (sq k ds)) : EvD (tCB (rTupleOf K) (tCons ta tNil)) δ (.tuple ds) :=
  ev_cb (eva_cons ha eva_nil) fun S H vs Q e d q => by
    cases d with
    | cons a b =>
      cases b
      obtain ⟨p, ys, rfl, h, c⟩ := a.seq
      cases k with
      | true => exact ⟨p, ys, rfl, .inl ⟨SqL.of (e _ _ h), fun l hl => q _ _ _ (Xt.fresh e hl) (.tup upd_same (c.up (same_upd (e.free hl))))⟩⟩
      | false => exact ⟨p, ys, rfl, .inr ⟨SqT.of (e _ _ h), q _ S H (XB.refl e) (.tup h c)⟩⟩
theorem DtAll.of_bls {S : Hp} : ∀ {bs : List Bool} {vs : List V}, DtAll S vs (bs.map PyData.bool) → vs = bs.map V.bl
  | [], _, h => by cases h; rfl
  | n :: ns, _, h => by
    cases h with
    | cons a b => cases a; rw [DtAll.of_bls b]; rfl
theorem ev_all {K : PySem.W.Frag} {ta : TE} {δ : List Sl} {bs : List Bool} (ha : EvD ta δ (.list (bs.map .bool))) : EvD (tCB (rAll K) (tCons ta tNil)) δ (.bool (bs.all id)) :=
  ev_cb (eva_cons ha eva_nil) fun S H vs Q e d q => by
    cases d with
    | cons a b =>
      cases b
      cases a with
      | lst h c => exact ⟨_, bs, rfl, SqL.of (by rw [← c.of_bls]; exact e _ _ h), q _ S H (XB.refl e) (.bl _)⟩
/-! isinstance -/
def tyD : PyData → String
  | .none => "NoneType"
  | .bool _ => "bool"
  | .int _ => "int"
  | .str _ => "str"
  | .list _ => "list"
  | .tuple _ => "tuple"
  | .dict _ => "dict"
theorem Dt.ty {K : PySem.W.Frag} {S H : Hp} {v : V} {x : PyData} (h : Dt S v x) (e : Same S H) : TyX K H v (.type (tyD x)) := by
  cases h with
  | non => exact .base .non
  | bl b => exact .base (.bl b)
  | int i => exact .base (.int i)
  | lst a b => exact .base (.lst (e _ _ a))
  | tup a b => exact .base (.tup (e _ _ a))
theorem ev_isi {K : PySem.W.Frag} {ta : TE} {T : String} {δ : List Sl} {x : PyData} {b : Bool} (ha : EvD ta δ x) (hb : kitB (tyD x) T = some b) : EvD (tCB (rIsi K) (tCons ta (tCons (tC (.ty T)) tNil))) δ (.bool b) :=
  .mk fun B S H σ Q f q => ha.run f fun v S1 H1 x1 d1 => ⟨v, .ty T, _, _, b, rfl, .ty T, d1.ty x1.sub, kit_ty hb, q _ S1 H1 x1 (.bl b)⟩
theorem ev_isi2 {K : PySem.W.Frag} {ta : TE} {T U : String} {δ : List Sl} {x : PyData} {b c : Bool} (ha : EvD ta δ x) (hb : kitB (tyD x) T = some b) (hc : kitB (tyD x) U = some c) :
    EvD (tCB (rIsiT K) (tCons ta (tCons (tTup (tCons (tC (.ty T)) (tCons (tC (.ty U)) tNil))) tNil))) δ (.bool (b || c)) :=
  .mk fun B S H σ Q f q => ha.run f fun v S1 H1 x1 d1 => ⟨by show 2 ≤ sizeLine; decide, fun p hp => ⟨v, p, [.ty T, .ty U], _, _, b || c, rfl, upd_same, .cons (.ty T) (.cons (.ty U) .nil), d1.ty (x1.sub.trans (same_upd hp)), by
    refine kitAny_cons (kit_ty hb) (fun e => ?_) (fun e => by rw [e]; rfl)
    rw [e, Bool.false_or]
    exact kitAny_cons (kit_ty hc) (fun e => by rw [e]; exact kitAny_nil) (fun e => e), q _ _ _ (x1.trans (Xt.fresh x1.sub hp)) (.bl _)⟩⟩
end L3
/-! L3C: statements and defs over L3A, L3B. -/
namespace L3
open PySem L2
/-! ### statements -/
inductive Out where
  | nx (δ : List Sl) | rt (x : PyData)
/-- what is wanted behind -/
def Aft (M : Addr → Prop) (B S H : Hp) (D : Ends) : Out → Prop
  | .nx δ' => ∀ S' H' σ', XB M B S H S' H' → Fr B S' H' σ' δ' → D.nx σ' H'
  | .rt x => ∀ v S' H', XB M B S H S' H' → Dt S' v x → D.rt v H'
def Ex (t : TS) (δ : List Sl) (o : Out) : Prop := ∀ (B S H : Hp) (σ : St) (D : Ends), Fr B S H σ δ → Aft NoM B S H D o → t D σ H
theorem Aft.from {M : Addr → Prop} {B S H S1 H1 : Hp} {D : Ends} {o : Out} (a : Aft M B S H D o) (x : XB M B S H S1 H1) : Aft M B S1 H1 D o := by
  cases o with
  | nx δ' => exact fun S' H' σ' x' f' => a S' H' σ' (x.trans x') f'
  | rt y => exact fun v S' H' x' d' => a v S' H' (x.trans x') d'
theorem ex_seq {t u : TS} {δ δ1 : List Sl} {o : Out} (h1 : Ex t δ (.nx δ1)) (h2 : Ex u δ1 o) : Ex (tSeq t u) δ o := fun B S H σ D f a =>
  h1 B S H σ { D with nx := u D } f fun S1 H1 σ1 x1 f1 => h2 B S1 H1 σ1 D f1 (by
    have a' := a.from x1
    cases o with
    | nx δ' => exact a'
    | rt y => exact a')
theorem ex_seqR {t u : TS} {δ : List Sl} {x : PyData} (h1 : Ex t δ (.rt x)) : Ex (tSeq t u) δ (.rt x) := fun B S H σ D f a => h1 B S H σ { D with nx := u D } f a
theorem ex_next {δ : List Sl} : Ex tNext δ (.nx δ) := fun B S H σ D f a => a S H σ (XB.refl f.sub) f
theorem ex_ret {te : TE} {δ : List Sl} {x : PyData} (h : EvD te δ x) : Ex (tRet te) δ (.rt x) := fun B S H σ D f a => h.run f fun v S1 H1 x1 d1 => a v S1 H1 (x1.low f.dB) d1
/-- a list of one's own is handed back -/
theorem ex_retM {δ : List Sl} {i : Nat} {xs : List PyData} (h : δ[i]? = some (.m xs)) : Ex (tRet (tVar i)) δ (.rt (.list xs)) := fun B S H σ D f a => by
  rcases f.val i _ h with z | ⟨v, e, p, vs, rfl, hS, hH, c⟩
  · cases z
  refine ⟨_, e, a _ (upd S p (.lst vs)) H ⟨same_upd hS, fun b o _ _ z => z, fun b z => z, fun b o z => ?_, fun b o z => ?_⟩ (.lst upd_same (c.up (same_upd hS)))⟩
  · by_cases hb : b = p
    · subst hb; rw [upd_same] at z; rw [hH]; exact z
    · rw [upd_ne hb] at z; exact f.sub b o z
  · by_cases hb : b = p
    · subst hb; exact .inr (f.own i _ _ h rfl e)
    · rw [upd_ne hb] at z; exact .inl z
theorem ex_if {c : TT} {t u : TS} {δ : List Sl} {b : Bool} {o : Out} (h : EvT c δ b) (h1 : b = true → Ex t δ o) (h2 : b = false → Ex u δ o) : Ex (tIfS c t u) δ o := fun B S H σ D f a => h B S H σ _ f fun S1 H1 x1 => by
  cases b with
  | true => exact iteT (h1 rfl B S1 H1 σ D (f.ext x1) (a.from (x1.low f.dB)))
  | false => exact iteF (h2 rfl B S1 H1 σ D (f.ext x1) (a.from (x1.low f.dB)))
theorem ex_ifT {c : TT} {t u : TS} {δ : List Sl} {o : Out} (h : EvT c δ true) (h1 : Ex t δ o) : Ex (tIfS c t u) δ o := ex_if h (fun _ => h1) fun z => nomatch z
theorem ex_ifF {c : TT} {t u : TS} {δ : List Sl} {o : Out} (h : EvT c δ false) (h1 : Ex u δ o) : Ex (tIfS c t u) δ o := ex_if h (fun z => nomatch z) fun _ => h1
theorem ex_drop {te : TE} {δ : List Sl} {s : Sl} (h : Ev te δ s) : Ex (tDrop te) δ (.nx δ) := fun B S H σ D f a => h B S H σ _ f fun v S1 H1 x1 _ _ => a S1 H1 σ (x1.low f.dB) (f.ext x1)
theorem ex_set {te : TE} {δ : List Sl} {i : Nat} {s : Sl} (h : Ev te δ s) : Ex (tAsg te (gName i)) δ (.nx (δ.set i s)) := fun B S H σ D f a => h B S H σ _ f fun v S1 H1 x1 w m => a S1 H1 _ (x1.low f.dB) ((f.ext x1).setM f w m)
theorem ex_asg {te : TE} {g : TG} {δ δ' : List Sl} {x : PyData} {vs : List Nat} (h : EvD te δ x) (hg : EvG g δ x vs δ') : Ex (tAsg te g) δ (.nx δ') := fun B S H σ D f a => h.run f fun v S1 H1 x1 d1 =>
  hg B S1 H1 σ v _ (f.ext x1) d1 fun σ' f' _ _ => a S1 H1 σ' (x1.low f.dB) f'
theorem ex_par {i j : Nat} {ta tb : TE} {δ : List Sl} {s s' : Sl} (ha : Ev ta δ s) (hb : Ev tb δ s') : Ex (tPar i j (tCons ta (tCons tb tNil))) δ (.nx ((δ.set i s).set j s')) := fun B S H σ D f a =>
  ha B S H σ _ f fun v S1 H1 x1 w1 m1 => hb B S1 H1 σ _ (f.ext x1) fun w S2 H2 x2 w2 m2 => ⟨v, w, rfl, a S2 H2 _ ((x1.trans x2).low f.dB) (by
    have f1 : Fr B S1 H1 (σ.set i (some v)) (δ.set i s) := (f.ext x1).setM f w1 m1
    exact (f1.ext x2).setM f1 w2 m2)⟩
theorem ex_par3 {i j l : Nat} {ta tb tc : TE} {δ : List Sl} {s s' s'' : Sl} (ha : Ev ta δ s) (hb : Ev tb δ s') (hc : Ev tc δ s'') : Ex (tPar3 i j l (tCons ta (tCons tb (tCons tc tNil)))) δ (.nx (((δ.set i s).set j s').set l s'')) := fun B S H σ D f a =>
  ha B S H σ _ f fun v S1 H1 x1 w1 m1 => hb B S1 H1 σ _ (f.ext x1) fun w S2 H2 x2 w2 m2 => hc B S2 H2 σ _ ((f.ext x1).ext x2) fun u S3 H3 x3 w3 m3 => ⟨v, w, u, rfl, a S3 H3 _ (((x1.trans x2).trans x3).low f.dB) (by
    have f1 : Fr B S1 H1 (σ.set i (some v)) (δ.set i s) := (f.ext x1).setM f w1 m1
    have f2 : Fr B S2 H2 ((σ.set i (some v)).set j (some w)) ((δ.set i s).set j s') := (f1.ext x2).setM f1 w2 m2
    exact (f2.ext x3).setM f2 w3 m3)⟩
/-! ### lists of one's own -/
theorem VS.other {S H : Hp} {v : V} {s : Sl} {p : Addr} {o : HO} (h : VS S H v s) (hS : S p = none) (hn : Mu s = true → v ≠ .ref p) : VS S (upd H p o) v s := by
  cases s with
  | u => exact True.intro
  | d y => exact h
  | m xs =>
    obtain ⟨q, vs, rfl, a, b, c⟩ := h
    exact ⟨q, vs, rfl, a, by rw [upd_ne (fun z => hn rfl (by rw [z]))]; exact b, c⟩
  | q kvs =>
    obtain ⟨q, rfl, a, b⟩ := h
    exact ⟨q, rfl, a, by rw [upd_ne (fun z => hn rfl (by rw [z]))]; exact b⟩
  | t a =>
    obtain ⟨rfl, b, c⟩ := h
    exact ⟨rfl, b, by rw [upd_ne (fun z => hn rfl (by rw [z]))]; exact c⟩
/-- a thing of one's own is written -/
theorem Fr.wr {B S H : Hp} {σ : St} {δ : List Sl} (f : Fr B S H σ δ) {i : Nat} {s s' : Sl} {p : Addr} {o : HO} (hi : δ[i]? = some s) (hs : Mu s = true) (hv : σ[i]? = some (some (.ref p))) (hS : S p = none) (hH : H p ≠ none) (hs' : Mu s' = true) (ho : Ow s' = true → B p = none) (h : VS S (upd H p o) (.ref p) s') :
    Fr B S (upd H p o) σ (δ.set i s') := by
  have hl : i < δ.length := (List.getElem?_eq_some_iff.mp hi).1
  have key : ∀ (j : Nat) (r : Sl), (δ.set i s')[j]? = some r → (j = i ∧ r = s') ∨ (j ≠ i ∧ δ[j]? = some r) := fun j r e => by
    by_cases hj : j = i
    · subst hj
      rw [List.getElem?_set_self hl] at e
      exact .inl ⟨rfl, (Option.some.inj e).symm⟩
    · rw [List.getElem?_set_ne (Ne.symm hj)] at e
      exact .inr ⟨hj, e⟩
  refine ⟨by rw [List.length_set]; exact f.len, fun b u e => ?_, fun b e => ?_, fun j r e => ?_, fun j r q e o q' => ?_, fun j k r r' q e e' m m' q1 q2 => ?_⟩
  · rw [upd_ne (fun z => by subst z; rw [hS] at e; cases e)]
    exact f.sub b u e
  · by_cases hb : b = p
    · subst hb; rw [upd_same] at e; cases e
    · rw [upd_ne hb] at e; exact f.dB b e
  · rcases key j r e with ⟨rfl, rfl⟩ | ⟨hj, e1⟩
    · exact .inr ⟨_, hv, h⟩
    · rcases f.val j r e1 with z | ⟨v, a, b⟩
      · exact .inl z
      · refine .inr ⟨v, a, b.other hS fun m z => ?_⟩
        subst z
        exact hj (f.sep j i r s p e1 hi m hs a hv)
  · rcases key j r e with ⟨rfl, rfl⟩ | ⟨hj, e1⟩
    · rw [hv] at q'
      cases q'
      exact ho o
    · exact f.own j r q e1 o q'
  · rcases key j r e with ⟨rfl, rfl⟩ | ⟨hj, e1⟩
    · rcases key k r' e' with ⟨rfl, rfl⟩ | ⟨hk, e2⟩
      · rfl
      · rw [hv] at q1
        cases q1
        exact f.sep j k s r' p hi e2 hs m' hv q2
    · rcases key k r' e' with ⟨rfl, rfl⟩ | ⟨hk, e2⟩
      · rw [hv] at q2
        cases q2
        exact f.sep j k r s p e1 hi m hs q1 hv
      · exact f.sep j k r r' q e1 e2 m m' q1 q2
theorem xb_wr {M : Addr → Prop} {B S H : Hp} {p : Addr} {o : HO} (e : Same S H) (hS : S p = none) (hH : H p ≠ none) (hB : B p = none ∨ M p) : XB M B S H S (upd H p o) where
  st := Same.refl S
  keep := fun b u hm hb q => by
    rw [upd_ne (fun z => by subst z; rcases hB with z | z; exact hb z; exact hm z)]
    exact q
  dom := fun b q => by
    by_cases hb : b = p
    · subst hb; rw [upd_same] at q; cases q
    · rw [upd_ne hb] at q; exact q
  sub := fun b u q => by
    rw [upd_ne (fun z => by subst z; rw [hS] at q; cases q)]
    exact e b u q
  new := fun b u q => .inl q
/-- xs.append(e) -/
theorem ex_app {K : PySem.W.Frag} {i : Nat} {te : TE} {δ : List Sl} {xs : List PyData} {x : PyData} (hi : δ[i]? = some (.m xs)) (he : EvD te δ x) (hz : xs.length < sizeLine) : Ex (tDrop (tBM K "list" rAppend (tVar i) (tCons te tNil))) δ (.nx (δ.set i (.m (xs ++ [x])))) := fun B S H σ D f a => by
  rcases f.val i _ hi with z | ⟨v, e, p, vs, rfl, hS, hH, c⟩
  · cases z
  refine ⟨_, e, .inl ⟨rfl, _, SqL.of hH⟩, he.run f fun v S1 H1 x1 d1 => ⟨p, vs, v, rfl, rfl, x1.same _ _ hH, by rw [c.length]; exact hz, ?_⟩⟩
  have hS1 : S1 p = none := still x1 hS (by rw [hH]; intro z; cases z)
  have hH1 : H1 p ≠ none := by rw [x1.same _ _ hH]; intro z; cases z
  have hB := f.own i _ _ hi rfl e
  refine a S1 _ σ ((x1.low f.dB).trans (xb_wr x1.sub hS1 hH1 (.inl hB))) ((f.ext x1).wr hi rfl e hS1 hH1 rfl (fun _ => hB) ⟨p, _, rfl, hS1, upd_same, (c.up x1.st).append (.one d1)⟩)
/-- xs[k] -/
theorem ev_ixM {K : PySem.W.Frag} {i : Nat} {tb : TE} {δ : List Sl} {xs : List PyData} {k : Int} {x : PyData} (hi : δ[i]? = some (.m xs)) (hb : EvD tb δ (.int k)) (hx : L2.atI xs k = some x) : EvD (tOp (rIx K) (tVar i) tb) δ x := .mk fun B S H σ Q f q => by
  rcases f.val i _ hi with z | ⟨v, e, p, vs, rfl, hS, hH, c⟩
  · cases z
  refine ⟨_, e, hb.run f fun w S1 H1 x1 d1 => ?_⟩
  obtain ⟨u, hu, du⟩ := (c.up x1.st).atI hx
  exact .inl ⟨p, vs, k, u, rfl, d1.isInt, SqL.of (x1.same _ _ hH), hu, q u S1 H1 x1 du⟩
/-- len(xs) -/
theorem ev_lenM {K : PySem.W.Frag} {i : Nat} {δ : List Sl} {xs : List PyData} (hi : δ[i]? = some (.m xs)) : EvD (tCB (rLen K) (tCons (tVar i) tNil)) δ (.int xs.length) := .mk fun B S H σ Q f q => by
  rcases f.val i _ hi with z | ⟨v, e, p, vs, rfl, hS, hH, c⟩
  · cases z
  exact ⟨_, e, p, vs, rfl, .inl (SqL.of hH), by rw [c.length]; exact q _ S H (XB.refl f.sub) (.int _)⟩
/-- xs[lo:hi] -/
theorem ev_sliceM {K : PySem.W.Frag} {i : Nat} {tl th : TO} {δ : List Sl} {xs : List PyData} {lo hi : Option Int} (hm : δ[i]? = some (.m xs)) (hl : EvO tl δ lo) (hh : EvO th δ hi) : EvD (tSl (rSlX K) (tVar i) tl th) δ (.list (cutD xs lo hi)) := .mk fun B S H σ Q f q => by
  rcases f.val i _ hm with z | ⟨v, e, p, vs, rfl, hS, hH, c⟩
  · cases z
  refine ⟨_, e, hl B S H σ _ f fun S1 H1 x1 => hh B S1 H1 σ _ (f.ext x1) fun S2 H2 x2 => .inl ⟨p, vs, rfl, SqL.of (x2.same _ _ (x1.same _ _ hH)), fun l hl => ?_⟩⟩
  exact q _ _ _ ((x1.trans x2).trans (Xt.fresh x2.sub hl)) (.lst upd_same (((c.up x1.st).up x2.st |>.cut lo hi).up (same_upd (x2.sub.free hl))))
/-- tuple(xs) -/
theorem ev_tupleM {K : PySem.W.Frag} {i : Nat} {δ : List Sl} {xs : List PyData} (hi : δ[i]? = some (.m xs)) : EvD (tCB (rTupleOf K) (tCons (tVar i) tNil)) δ (.tuple xs) := .mk fun B S H σ Q f q => by
  rcases f.val i _ hi with z | ⟨v, e, p, vs, rfl, hS, hH, c⟩
  · cases z
  exact ⟨_, e, p, vs, rfl, .inl ⟨SqL.of hH, fun l hl => q _ _ _ (Xt.fresh f.sub hl) (.tup upd_same (c.up (same_upd (f.sub.free hl))))⟩⟩
/-! ### dicts of one's own, keys tuples of ints -/
def valD (kvs : List (List Int × Int)) (k : List Int) : Option Int := (kvs.find? fun kv => decide (kv.1 = k)).map (·.2)
theorem inl_inj : ∀ {a b : List Int}, (a.map Sum.inl : List Key) = b.map Sum.inl → a = b
  | [], [], _ => rfl
  | [], _ :: _, e => by cases e
  | _ :: _, [], e => by cases e
  | x :: a, y :: b, e => by
    rw [List.map_cons, List.map_cons] at e
    injection e with e1 e2
    injection e1 with e1
    rw [e1, inl_inj e2]
theorem valV_int (k : List Int) : ∀ kvs : List (List Int × Int), valV (kInt kvs) (k.map Sum.inl) = (valD kvs k).map V.int
  | [] => rfl
  | p :: r => by
    by_cases e : p.1 = k
    · have e' : (p.1.map Sum.inl : List Key) = k.map Sum.inl := by rw [e]
      rw [show kInt (p :: r) = (p.1.map Sum.inl, V.int p.2) :: kInt r from rfl, valV_pos e']
      simp [valD, List.find?_cons, e]
    · have e' : ¬ (p.1.map Sum.inl : List Key) = k.map Sum.inl := fun z => e (inl_inj z)
      rw [show kInt (p :: r) = (p.1.map Sum.inl, V.int p.2) :: kInt r from rfl, valV_neg e', valV_int k r]
      simp [valD, List.find?_cons, e]
theorem kV_ints (k : List Int) : (k.map Sum.inl : List Key).map kV = k.map V.int := by
  rw [List.map_map]
  rfl
theorem key_at {S H : Hp} {v : V} {k : List Int} (h : Dt S v (.tuple (k.map .int))) (e : Same S H) : ∃ b, v = .ref b ∧ H b = some (.tup ((k.map Sum.inl : List Key).map kV)) := by
  cases h with
  | tup a c => exact ⟨_, rfl, by rw [kV_ints, ← c.of_ints]; exact e _ _ a⟩
/-- k in d -/
theorem ev_din {i : Nat} {ty : TE} {δ : List Sl} {kvs : List (List Int × Int)} {k : List Int} (hi : δ[i]? = some (.q kvs)) (hy : EvD ty δ (.tuple (k.map .int))) : EvD (tDIn ty (tVar i)) δ (.bool (valD kvs k).isSome) := .mk fun B S H σ Q f q => by
  rcases f.val i _ hi with z | ⟨v, e, p, rfl, hS, hH⟩
  · cases z
  refine hy.run f fun w S1 H1 x1 d1 => ⟨_, e, p, (valD kvs k).map V.int, rfl, ?_⟩
  obtain ⟨b, rfl, hb⟩ := key_at d1 x1.sub
  have g := DGet.t (k := k.map Sum.inl) (x1.same _ _ hH) hb
  rw [valV_int] at g
  refine ⟨g, ?_⟩
  rw [Option.isSome_map]
  exact q _ S1 H1 x1 (.bl _)
/-- d[k] -/
theorem ev_dget {i : Nat} {ty : TE} {δ : List Sl} {kvs : List (List Int × Int)} {k : List Int} {z : Int} (hi : δ[i]? = some (.q kvs)) (hy : EvD ty δ (.tuple (k.map .int))) (hz : valD kvs k = some z) : EvD (tDGet (tVar i) ty) δ (.int z) := .mk fun B S H σ Q f q => by
  rcases f.val i _ hi with z' | ⟨v, e, p, rfl, hS, hH⟩
  · cases z'
  refine ⟨_, e, hy.run f fun w S1 H1 x1 d1 => ?_⟩
  obtain ⟨b, rfl, hb⟩ := key_at d1 x1.sub
  refine ⟨p, .int z, rfl, ?_, q _ S1 H1 x1 (.int _)⟩
  have g := DGet.t (k := k.map Sum.inl) (x1.same _ _ hH) hb
  rw [valV_int, hz] at g
  exact g
/-- d[k] = z, a new key -/
theorem ex_dput {i : Nat} {ty tv : TE} {δ : List Sl} {kvs : List (List Int × Int)} {k : List Int} {z : Int} (hi : δ[i]? = some (.q kvs)) (hv : EvD tv δ (.int z)) (hy : EvD ty δ (.tuple (k.map .int))) (hn : valD kvs k = none) (hz : kvs.length < sizeLine) :
    Ex (sDPut (tVar i) ty tv) δ (.nx (δ.set i (.q (kvs ++ [(k, z)])))) := fun B S H σ D f a => by
  rcases f.val i _ hi with z' | ⟨v, e, p, rfl, hS, hH⟩
  · cases z'
  refine hv.run f fun u S1 H1 x1 d1 => ⟨_, e, hy.run (f.ext x1) fun w S2 H2 x2 d2 => ?_⟩
  have x12 := x1.trans x2
  obtain ⟨b, rfl, hb⟩ := key_at d2 x2.sub
  have hH2 := x12.same _ _ hH
  refine ⟨p, _, rfl, DPut.t hH2 hb (by rw [List.length_map]; exact hz), ?_⟩
  cases d1
  have hS2 : S2 p = none := still x12 hS (by rw [hH]; intro z; cases z)
  have hB := f.own i _ _ hi rfl e
  have e2 : putK (kInt kvs) (k.map Sum.inl) (V.int z) = kInt (kvs ++ [(k, z)]) := by
    rw [putK_new _ (by rw [valV_int, hn]; rfl)]
    show kInt kvs ++ _ = (kvs ++ [(k, z)]).map _
    rw [List.map_append]
    rfl
  rw [e2]
  refine a S2 _ σ ((x12.low f.dB).trans (xb_wr x2.sub hS2 (by rw [hH2]; intro z; cases z) (.inl hB))) ((f.ext x12).wr hi rfl e hS2 (by rw [hH2]; intro z; cases z) rfl (fun _ => hB) ⟨p, rfl, hS2, upd_same⟩)
/-! ### loops -/
/-- the body by the frames f 0, f 1, .. -/
theorem ex_for {wi : TI} {g : TG} {tb : TS} {ds : List PyData} (f : Nat → List Sl) (hi : EvI wi (f 0) ds)
    (hs : ∀ (i : Nat) (d : PyData), ds[i]? = some d → ∃ vs δ', EvG g (f i) d vs δ' ∧ Ex tb δ' (.nx (f (i + 1)))) : Ex (tFor wi g tb) (f 0) (.nx (f ds.length)) := fun B S H σ D fr a => hi B S H σ _ fr fun J S1 H1 x1 ok => by
  refine ⟨fun i m σ2 H2 => m = ds.length - i ∧ i ≤ ds.length ∧ ∃ S2, XB NoM B S1 H1 S2 H2 ∧ Fr B S2 H2 σ2 (f i), ⟨ds.length, by simp, Nat.zero_le _, S1, XB.refl x1.sub, fr.ext x1⟩, ?_⟩
  rintro i m σ2 H2 ⟨rfl, hle, S2, x2, f2⟩
  have eH : Same S1 H2 := x2.st.trans x2.sub
  by_cases hlt : i < ds.length
  · refine .inr ⟨ok.go i H2 eH hlt, fun σ' H' => i + 1 ≤ ds.length ∧ ∃ S2, XB NoM B S1 H1 S2 H' ∧ Fr B S2 H' σ' (f (i + 1)), fun σ' H' h => ⟨ds.length - (i + 1), by omega, rfl, h⟩, fun x H' y => ?_⟩
    obtain ⟨S3, d, x3, hd, dd⟩ := ok.yld i H2 x H' S2 x2.st x2.sub hlt y
    obtain ⟨vs, δ', hg, hb⟩ := hs i d hd
    exact hg B S3 H' σ2 x _ (f2.ext x3) dd fun σ' f4 _ _ => hb B S3 H' σ' _ f4 fun S5 H5 σ5 x5 f5 => ⟨hlt, S5, (x2.trans (x3.low f2.dB)).trans x5, f5⟩
  · have e : i = ds.length := by omega
    subst e
    exact .inl ⟨ok.stop H2 eH, a S2 H2 σ2 ((x1.low fr.dB).trans x2) f2⟩
/-- .. the k-th turn hands back -/
theorem ex_forR {wi : TI} {g : TG} {tb : TS} {ds : List PyData} {x : PyData} (k : Nat) (f : Nat → List Sl) (hi : EvI wi (f 0) ds) (hk : k < ds.length)
    (hs : ∀ (i : Nat) (d : PyData), i < k → ds[i]? = some d → ∃ vs δ', EvG g (f i) d vs δ' ∧ Ex tb δ' (.nx (f (i + 1)))) (he : ∀ d : PyData, ds[k]? = some d → ∃ vs δ', EvG g (f k) d vs δ' ∧ Ex tb δ' (.rt x)) : Ex (tFor wi g tb) (f 0) (.rt x) := fun B S H σ D fr a => hi B S H σ _ fr fun J S1 H1 x1 ok => by
  refine ⟨fun i m σ2 H2 => m = k - i ∧ i ≤ k ∧ ∃ S2, XB NoM B S1 H1 S2 H2 ∧ Fr B S2 H2 σ2 (f i), ⟨k, by simp, Nat.zero_le _, S1, XB.refl x1.sub, fr.ext x1⟩, ?_⟩
  rintro i m σ2 H2 ⟨rfl, hle, S2, x2, f2⟩
  have eH : Same S1 H2 := x2.st.trans x2.sub
  refine .inr ⟨ok.go i H2 eH (by omega), fun σ' H' => i + 1 ≤ k ∧ ∃ S2, XB NoM B S1 H1 S2 H' ∧ Fr B S2 H' σ' (f (i + 1)), fun σ' H' h => ⟨k - (i + 1), by omega, rfl, h⟩, fun x H' y => ?_⟩
  obtain ⟨S3, d, x3, hd, dd⟩ := ok.yld i H2 x H' S2 x2.st x2.sub (by omega) y
  by_cases hlt : i < k
  · obtain ⟨vs, δ', hg, hb⟩ := hs i d hlt hd
    exact hg B S3 H' σ2 x _ (f2.ext x3) dd fun σ' f4 _ _ => hb B S3 H' σ' _ f4 fun S5 H5 σ5 x5 f5 => ⟨hlt, S5, (x2.trans (x3.low f2.dB)).trans x5, f5⟩
  · have e : i = k := by omega
    subst e
    obtain ⟨vs, δ', hg, hb⟩ := he d hd
    exact hg B S3 H' σ2 x _ (f2.ext x3) dd fun σ' f4 _ _ => hb B S3 H' σ' _ f4 fun v S5 H5 x5 d5 => a v S5 H5 (((x1.low fr.dB).trans (x2.trans (x3.low f2.dB))).trans x5) d5
/-- while: the k-th turn hands back -/
theorem ex_whileR {c : TT} {tb : TS} {x : PyData} (k : Nat) (f : Nat → List Sl) (hc : ∀ i, i ≤ k → EvT c (f i) true) (hs : ∀ i, i < k → Ex tb (f i) (.nx (f (i + 1)))) (he : Ex tb (f k) (.rt x)) : Ex (tWhile c tb) (f 0) (.rt x) := fun B S H σ D fr a => by
  refine ⟨fun m σ2 H2 => ∃ i, m = k - i ∧ i ≤ k ∧ ∃ S2, XB NoM B S H S2 H2 ∧ Fr B S2 H2 σ2 (f i), ⟨k, 0, rfl, Nat.zero_le _, S, XB.refl fr.sub, fr⟩, ?_⟩
  rintro m σ2 H2 ⟨i, rfl, hle, S2, x2, f2⟩
  refine hc i hle B S2 H2 σ2 _ f2 fun S3 H3 x3 => ?_
  refine iteT ⟨fun σ' H' => i + 1 ≤ k ∧ ∃ S2, XB NoM B S H S2 H' ∧ Fr B S2 H' σ' (f (i + 1)), fun σ' H' h => ⟨k - (i + 1), by omega, i + 1, rfl, h⟩, ?_⟩
  have x23 := x2.trans (x3.low (N := NoM) f2.dB)
  by_cases hlt : i < k
  · exact hs i hlt B S3 H3 σ2 _ (f2.ext x3) fun S5 H5 σ5 x5 f5 => ⟨hlt, S5, x23.trans x5, f5⟩
  · have e : i = k := by omega
    subst e
    exact he B S3 H3 σ2 _ (f2.ext x3) fun v S5 H5 x5 d5 => a v S5 H5 (x23.trans x5) d5
/-! ### defs -/
/-- the promise of a def on data: from the arguments' data to the answer's -/
def spD (R : List PyData → PyData → Prop) : Sp := fun vs H Q _ => ∃ S ds r, Same S H ∧ DtAll S vs ds ∧ R ds r ∧ ∀ v S' H', Xt S H S' H' → Dt S' v r → Q v H'
theorem ev_call {R : List PyData → PyData → Prop} {E : XK} {ta : TA} {δ : List Sl} {ds : List PyData} {r : PyData} (ha : EvA ta δ ds) (hr : R ds r) : EvD (tCall (spD R) [] E ta) δ r := .mk fun B S H σ Q f q =>
  ha B S H σ _ f fun vs S1 H1 x1 d1 => ⟨S1, ds, r, x1.sub, by rw [List.append_nil]; exact d1, hr, fun v S2 H2 x2 d2 => q v S2 H2 (x1.trans x2) d2⟩
def stD (N : List Str) (ds : List PyData) : List Sl := ds.map Sl.d ++ List.replicate (N.length - ds.length) .u
theorem Fr.start {N : List Str} {S H : Hp} {vs : List V} {ds : List PyData} (e : Same S H) (c : DtAll S vs ds) : Fr H S H (L2.start N vs) (stD N ds) := by
  have only : ∀ (i : Nat) (s : Sl), (stD N ds)[i]? = some s → Mu s = false := fun i s h => by
    unfold stD at h
    by_cases hi : i < ds.length
    · rw [List.getElem?_append_left (by rw [List.length_map]; exact hi), List.getElem?_map] at h
      cases z : ds[i]? with
      | none => rw [z] at h; cases h
      | some d => rw [z] at h; cases h; rfl
    · rw [List.getElem?_append_right (by rw [List.length_map]; exact Nat.le_of_not_lt hi), List.getElem?_replicate] at h
      split at h
      · cases h; rfl
      · cases h
  refine ⟨by unfold L2.start stD; rw [List.length_append, List.length_append, List.length_map, List.length_map, List.length_replicate, List.length_replicate, c.length], e, fun _ h => h, fun i s h => ?_, fun i s p h o => ?_, fun i j s s' p h h' m => ?_⟩
  · unfold stD at h
    by_cases hi : i < ds.length
    · rw [List.getElem?_append_left (by rw [List.length_map]; exact hi), List.getElem?_map] at h
      cases z : ds[i]? with
      | none => rw [z] at h; cases h
      | some d =>
        rw [z] at h
        cases h
        obtain ⟨v, hv, dv⟩ := c.get z
        refine .inr ⟨v, ?_, dv⟩
        unfold L2.start
        rw [List.getElem?_append_left (by rw [List.length_map, c.length]; exact hi), List.getElem?_map, hv]
        rfl
    · rw [List.getElem?_append_right (by rw [List.length_map]; exact Nat.le_of_not_lt hi), List.getElem?_replicate] at h
      split at h
      · cases h; exact .inl rfl
      · cases h
  · have := only i s h
    rw [Ow.mu o] at this
    cases this
  · have := only i s h
    rw [m] at this
    cases this
/-- a def that stands, by its name -/
structure Def (K : PySem.W.Frag) (mg : Str → Option Value) (x : Str) (ps : List Str) (st : Stmt) : Prop where
  ex : ∃ f fd, Fun K x x st f fd ∧ mg x = some (.ref f) ∧ Binds K fd ps []
/-- a def that keeps its promise, by its name -/
structure Cal (P : Program) (w : World) (K : PySem.W.Frag) (mg : Str → Option Value) (base : Heap) (x : Str) (ps : List Str) (k : Nat) (sp : Sp) : Prop where
  ex : ∃ f fd, FnOk P w K mg base CX0 k f fd ps sp ∧ mg x = some (.ref f) ∧ PySem.W.keepIn K (.ref f) = true ∧ Binds K fd ps []
theorem pe_cal {X : Cx} {x : Str} {ps : List Str} {k : Nat} {sp : Sp} {p pos : Pos} {e : Expr} {es : List Expr} {t : TA} (C : Cal X.prog X.w X.K X.mg X.base x ps k sp) (hr : Room k X.A) (hg : Gl X x) (ha : PA X (e :: es) t)
    (hdb : (x == ("__debug__" : Str)) = false := by decide +kernel) (he : starEach (e :: es) X.env = (false, eval e X.env) :: starEach es X.env := by rfl) (hpl : (backTo pos (starEach es X.env)).any (·.1) = false := by rfl) :
    PE X (.Call (.Name x p) (e :: es) [] pos) (tCall sp [] E0 t) := by
  obtain ⟨f, fd, F, hm, hk, hb⟩ := C.ex
  exact pe_call F hr hg hm hk hb .nil pass0 ha hdb he hpl
theorem pe_cal0 {X : Cx} {x : Str} {ps : List Str} {k : Nat} {sp : Sp} {p pos : Pos} (C : Cal X.prog X.w X.K X.mg X.base x ps k sp) (hr : Room k X.A) (hg : Gl X x) (hdb : (x == ("__debug__" : Str)) = false := by decide +kernel) : PE X (.Call (.Name x p) [] [] pos) (tCall sp [] E0 tNil) := by
  obtain ⟨f, fd, F, hm, hk, hb⟩ := C.ex
  exact pe_call0 F hr hg hm hk hb .nil pass0 hdb
section
variable {P : Program} {w : World} {K : PySem.W.Frag} {mg : Str → Option Value} {base : Heap}
/-- THE RULE for a def on data -/
theorem def_ok {x : Str} {ps N : List Str} {st : Stmt} {k : Nat} {R : List PyData → PyData → Prop} (F : Def K mg x ps st) (sc : FnScope N ps (defScope st)) (hl : ∀ ds r, R ds r → ds.length = ps.length)
    (hb : ∀ (f : Addr) (cdv : Value) (A : Around) (outer : List Env) (s : Shared) (H : Hp) (E : XK) (ds : List PyData) (r : PyData), Room k (A.deeper (PyProof.Rows.envOfC x (defScope st) s.heap.objs.size f cdv)) → R ds r →
      ∃ t, PSs (cxOf CX0 P w K mg base N x (defScope st) f cdv A outer s H E).nox (defBody st) t ∧ Ex t (stD N ds) (.rt r)) : Cal P w K mg base x ps (k + 1) (spD R) := by
  obtain ⟨f, fd, F0, hm, hbd⟩ := F.ex
  refine ⟨f, fd, F0.ok sc (fun vs H Q E h => ?_) (fun cdv A outer s H vs Q E hr h => ?_), hm, F0.kp, hbd⟩
  · obtain ⟨S, ds, r, _, c, hR, _⟩ := h
    rw [c.length]
    exact hl ds r hR
  · obtain ⟨S, ds, r, e, c, hR, q⟩ := h
    obtain ⟨t, h1, h2⟩ := hb f cdv A outer s H E ds r hr hR
    exact ⟨t, h1, h2 H S H _ _ (Fr.start e c) fun v S' H' x' d' => q v S' H' x' d'⟩
theorem Cal.mono {x : Str} {ps : List Str} {j k : Nat} {sp : Sp} (C : Cal P w K mg base x ps j sp) (h : j ≤ k) : Cal P w K mg base x ps k sp := by
  obtain ⟨f, fd, F, r⟩ := C.ex
  exact ⟨f, fd, F.mono h, r⟩
theorem Cal.imp {x : Str} {ps : List Str} {k : Nat} {sp sp' : Sp} (C : Cal P w K mg base x ps k sp) (h : ∀ vs H Q E, sp' vs H Q E → sp vs H Q E) : Cal P w K mg base x ps k sp' := by
  obtain ⟨f, fd, F, r⟩ := C.ex
  exact ⟨f, fd, F.imp h, r⟩
end
theorem spD_imp {R R' : List PyData → PyData → Prop} (h : ∀ ds r, R' ds r → R ds r) : ∀ vs H Q E, spD R' vs H Q E → spD R vs H Q E := fun vs H Q E ⟨S, ds, r, e, c, hR, q⟩ => ⟨S, ds, r, e, c, h ds r hR, q⟩
/-! ### own rules of the layer -/
/-- {k: v}, k a tuple -/
def tDisp1T (tk tv : TE) : TE := fun σ H Q => ∀ p, H p = none → tk σ (upd H p (.dT [])) fun x H1 => tv σ H1 fun y H2 => ∃ b k, x = .ref b ∧ H2 b = some (.tup (k.map kV)) ∧ H2 p = some (.dT []) ∧ Q (.ref p) (upd H2 p (.dT [(k, y)]))
theorem ev_disp1 {tk tv : TE} {δ : List Sl} {k : List Int} {z : Int} (hk : EvD tk δ (.tuple (k.map .int))) (hv : EvD tv δ (.int z)) : Ev (tDisp1T tk tv) δ (.q [(k, z)]) := fun B S H σ Q f q p hp => by
  have x0 : Xt S H S (upd H p (.dT [])) := Xt.freshM f.sub hp
  have hS := f.sub.free hp
  refine hk.run (f.ext x0) fun v S1 H1 x1 d1 => hv.run ((f.ext x0).ext x1) fun u S2 H2 x2 d2 => ?_
  obtain ⟨b, rfl, hb⟩ := key_at d1 x1.sub
  cases d2
  have p1 : H1 p = some (.dT []) := x1.same _ _ upd_same
  have p2 : H2 p = some (.dT []) := x2.same _ _ p1
  have s1 : S1 p = none := still x1 hS (by rw [upd_same]; intro z; cases z)
  have s2 : S2 p = none := still x2 s1 (by rw [p1]; intro z; cases z)
  refine ⟨b, k.map Sum.inl, rfl, x2.same _ _ hb, p2, q _ S2 _ ⟨(x0.trans (x1.trans x2)).st, fun c o hm hc e => ?_, fun c e => ?_, fun c o e => ?_, (x0.trans (x1.trans x2)).new⟩ ⟨p, rfl, s2, upd_same⟩ fun _ => ⟨rfl, fun p' e => by cases e; exact hp⟩⟩
  · have nc : c ≠ p := fun z => by subst z; rw [hp] at e; cases e
    rw [upd_ne nc]
    exact (x0.trans (x1.trans x2)).keep c o hm hc e
  · by_cases hc : c = p
    · subst hc; exact hp
    · rw [upd_ne hc] at e; exact (x0.trans (x1.trans x2)).dom c e
  · have nc : c ≠ p := fun z => by subst z; rw [s2] at e; cases e
    rw [upd_ne nc]
    exact x2.sub c o e
end L3
/-! L3D: the rules by functions on data; built-ins under own names; t[::-1]; the one-pair dict display. -/
namespace L3
open PySem L2
/-! ### functions on data -/
def itemsD : PyData → Option (List PyData)
  | .list ds => some ds
  | .tuple ds => some ds
  | _ => none
theorem itemsD_sq {x : PyData} {ds : List PyData} (h : itemsD x = some ds) : ∃ k, x = sq k ds := by
  cases x with
  | list es => cases h; exact ⟨true, rfl⟩
  | tuple es => cases h; exact ⟨false, rfl⟩
  | none => cases h
  | bool b => cases h
  | int i => cases h
  | str s => cases h
  | dict k => cases h
theorem sq_items (k : Bool) (ds : List PyData) : itemsD (sq k ds) = some ds := by cases k <;> rfl
def getD (x : PyData) (i : Int) : Option PyData := (itemsD x).bind fun ds => L2.atI ds i
theorem getD_sq {k : Bool} {ds : List PyData} {i : Int} : getD (sq k ds) i = L2.atI ds i := by cases k <;> rfl
theorem getD_nat {k : Bool} {ds : List PyData} {i : Nat} {x : PyData} (h : ds[i]? = some x) : getD (sq k ds) (i : Int) = some x := by rw [getD_sq]; exact atI_nat h
section
variable {K : PySem.W.Frag} {δ : List Sl} {ta tb : TE} {x y z : PyData} {ds : List PyData} {i : Int}
theorem eix (ha : EvD ta δ y) (hb : EvD tb δ (.int i)) (hx : getD y i = some x) : EvD (tOp (rIx K) ta tb) δ x := by
  unfold getD at hx
  cases e : itemsD y with
  | none => rw [e] at hx; cases hx
  | some ds =>
    rw [e] at hx
    obtain ⟨k, rfl⟩ := itemsD_sq e
    exact ev_ix ha hb hx
theorem elen (ha : EvD ta δ y) (h : itemsD y = some ds) : EvD (tCB (rLen K) (tCons ta tNil)) δ (.int ds.length) := by
  obtain ⟨k, rfl⟩ := itemsD_sq h
  exact ev_len ha
theorem etup (ha : EvD ta δ y) (h : itemsD y = some ds) : EvD (tCB (rTupleOf K) (tCons ta tNil)) δ (.tuple ds) := by
  obtain ⟨k, rfl⟩ := itemsD_sq h
  exact ev_tupleOf ha
theorem iseq (ha : EvD ta δ y) (h : itemsD y = some ds) : EvI (iSeq K ta) δ ds := by
  obtain ⟨k, rfl⟩ := itemsD_sq h
  exact evi_seq ha
theorem gseq {n : Nat} {gs : TGs} {δ' : List Sl} {vs : List Nat} (hi : itemsD y = some ds) (h : EvGs gs δ ds vs δ') (hn : ds.length = n := by rfl) : EvG (gSeq K n gs) δ y vs δ' := by
  obtain ⟨k, rfl⟩ := itemsD_sq hi
  exact evg_seq h hn
end
theorem ltD {ta tb : TE} {δ : List Sl} {i j : Int} (ha : EvD ta δ (.int i)) (hb : EvD tb δ (.int j)) : EvD (tOp (rI0 fun i j => .bl (decide (i < j))) ta tb) δ (.bool (decide (i < j))) := ev_I0b ha hb
/-! ### built-ins under own names -/
section
variable {X : Cx}
def rAbs1 : List V → Hp → VK → Prop := fun xs H Q => ∃ i : Int, xs = [.int i] ∧ Q (.int (if i < 0 then -i else i)) H
theorem call_absX : CallR X (.builtin "abs") rAbs1 := call_abs
theorem call_lenX : CallR X (.builtin "len") (rLen X.K) := call_len_seq
end
end L3
namespace L3
open PySem L2
section
variable {X : Cx}
theorem call_intX : CallR X (.type "int") rInt1 := call_int1
theorem call_tupleX : CallR X (.type "tuple") (rTupleOf X.K) := call_tuple_of
theorem eabs {ta : TE} {δ : List Sl} {i : Int} (ha : EvD ta δ (.int i)) : EvD (tCB rAbs1 (tCons ta tNil)) δ (.int (if i < 0 then -i else i)) := ev_abs ha
end
end L3
namespace HT
open PySem PySem.Spec PyProof.Rows L2
section
variable {prog : Program} {w : World} {A : Around} {E : Value → Shared → Prop} {s : Shared}
theorem sliceApplied_rev {sl : Addr} {vl vu vs : Value} {n : Nat} {Q : Int × Int × Nat → Shared → Prop} (hs : s.heap.IsSliceOf sl vl vu vs) (pl : IsPart vl none) (pu : IsPart vu none) (ps : IsPart vs (some (-1)))
    (h : Q ((n : Int) - 1, -1, n) s) : wpAny (model prog w) A (Builtin.Slice.sliceApplied (.ref sl) (pure (n : Int))) Q E s := by
  obtain ⟨os, hos, hcs, hds⟩ := id hs
  unfold Builtin.Slice.sliceApplied Builtin.Slice.sliceFields
  refine wpAny_bind (wpAny_bind (wpAny_field hos hds (x := vl) rfl (wpAny_bind (wpAny_field hos hds (x := vu) rfl (wpAny_bind (wpAny_field hos hds (x := vs) rfl (wpAny_pure ?_)))))))
  refine wpAny_bind (slicePart_ ps ?_)
  show wpAny _ _ (if ((-1 : Int) == 0) = true then _ else _) _ _ s
  rw [if_neg (by decide)]
  refine wpAny_bind (slicePart_ pl (wpAny_bind (slicePart_ pu (wpAny_bind (wpAny_pure ?_)))))
  show wpAny _ _ (match Builtin.Slice.sliceAdjust none none (-1) (n : Int) with | (lo, hi) => pure (lo, (-1 : Int), Builtin.Slice.slicePlaces lo hi (-1))) _ _ s
  have e : Builtin.Slice.sliceAdjust none none (-1) (n : Int) = ((n : Int) - 1, -1) := by
    unfold Builtin.Slice.sliceAdjust
    simp
  rw [e]
  show wpAny _ _ (pure ((n : Int) - 1, (-1 : Int), Builtin.Slice.slicePlaces ((n : Int) - 1) (-1) (-1))) _ _ s
  have e2 : Builtin.Slice.slicePlaces ((n : Int) - 1) (-1) (-1) = n := by
    unfold Builtin.Slice.slicePlaces
    have h1 : ¬ ((-1 : Int) > 0) := by omega
    simp only [h1, if_false, Int.neg_neg, Int.ediv_one]
    split <;> omega
  rw [e2]
  exact wpAny_pure h
theorem pick_rev (xs : Array Value) : ((List.range xs.size).filterMap fun (m : Nat) => xs[(((xs.size : Int) - 1) + (m : Int) * -1).toNat]?).toArray = xs.toList.reverse.toArray := by
  congr 1
  refine List.ext_getElem? fun j => ?_
  have e : (List.range xs.size).filterMap (fun (m : Nat) => xs[(((xs.size : Int) - 1) + (m : Int) * -1).toNat]?) = (List.range xs.size).map (fun m => xs.toList.getD (xs.size - 1 - m) Value.none) := by
    have : ∀ l : List Nat, (∀ m ∈ l, m < xs.size) → l.filterMap (fun (m : Nat) => xs[(((xs.size : Int) - 1) + (m : Int) * -1).toNat]?) = l.map (fun m => xs.toList.getD (xs.size - 1 - m) Value.none) := by
      intro l
      induction l with
      | nil => intro _; rfl
      | cons m r ih =>
        intro hm
        have h1 := hm m List.mem_cons_self
        have h2 : (((xs.size : Int) - 1) + (m : Int) * -1).toNat = xs.size - 1 - m := by omega
        have h3 : xs.size - 1 - m < xs.size := by omega
        have h4 : xs[(((xs.size : Int) - 1) + (m : Int) * -1).toNat]? = some (xs.toList.getD (xs.size - 1 - m) Value.none) := by
          rw [h2, List.getD_eq_getElem?_getD, Array.getElem?_toList, Array.getElem?_eq_getElem h3]
          rfl
        rw [List.filterMap_cons, h4, List.map_cons, ih fun m hm' => hm m (List.mem_cons_of_mem _ hm')]
    exact this _ fun m hm => List.mem_range.mp hm
  rw [e, List.getElem?_map]
  by_cases hj : j < xs.size
  · rw [List.getElem?_range hj, List.getElem?_reverse (by simpa using hj)]
    have h3 : xs.size - 1 - j < xs.toList.length := by rw [Array.length_toList]; omega
    show some (xs.toList.getD (xs.size - 1 - j) Value.none) = _
    rw [List.getD_eq_getElem?_getD, Array.length_toList]
    rw [List.getElem?_eq_getElem h3]
    rfl
  · rw [List.getElem?_eq_none (by rw [List.length_range]; omega), List.getElem?_eq_none (by rw [List.length_reverse, Array.length_toList]; omega)]
    rfl
theorem getItem_tuple_rev {t sl : Addr} {items : Array Value} {vl vu vs : Value} {Q : Value → Shared → Prop} (ht : IsTup s.heap t items) (hs : s.heap.IsSliceOf sl vl vu vs) (pl : IsPart vl none) (pu : IsPart vu none) (ps : IsPart vs (some (-1)))
    (h : Q (.ref s.heap.objs.size) { s with heap := s.heap.push { cls := .type "tuple", data := .seq items.toList.reverse.toArray } })
    (hsz : items.size ≤ sizeLine) : wpAny (model prog w) A (getItem (.ref t) (.ref sl)) Q E s := by
  have htake : sizeOk (.seq items.toList.reverse.toArray) := by
    show items.toList.reverse.toArray.size ≤ sizeLine
    rw [List.size_toArray, List.length_reverse, Array.length_toList]
    exact hsz
  obtain ⟨os, hos, hcs, hds⟩ := id hs
  have hTs : s.TypeIs (.ref sl) "slice" := ⟨os, hos, hcs⟩
  unfold getItem
  try with_reducible refine wpAny_holding ?_
  first | refine wpAny_bind (wpAny_pure ?_) | skip
  refine wpAny_bind (wpAny_sequenceKey ht.typeIs (by decide) ?_)
  refine wpAny_bind (wpAny_callSpecial?_slot (name := Str.ofString "__getitem__") ht.typeIs PyProof.Rows.slot_tuple_getitem
    (wpAny_call_entry PyProof.Rows.slot_tuple_getitem ht.typeIs entry_tuple_getitem ?_ (args_tuple_getitem _ _)))
  show wpAny _ _ (Builtin.Tuple.tupleItemsOf (.ref t) >>= _) _ _ s
  refine wpAny_bind (tupleItemsOf_ ht ?_)
  refine wpAny_bind (wpAny_typeOf hTs ?_)
  rw [if_pos (by decide)]
  refine wpAny_bind (sliceApplied_rev hs pl pu ps ?_)
  have hno : ¬ (((items.size : Int) - 1 == 0 && (-1 : Int) == 1 && items.size == items.size) = true) := by simp
  show wpAny _ _ (if ((items.size : Int) - 1 == 0 && (-1 : Int) == 1 && items.size == items.size) = true then _ else _) _ _ s
  rw [if_neg hno, pick_rev]
  first
    | exact wpAny_bind (m := Builtin.Tuple.tupleExact _) (wpAny_newObj_type (wpAny_pure ⟨_, rfl, wpAny_pure h⟩) htake)
    | exact wpAny_bind (m := Builtin.Tuple.tupleExact _) (wpAny_newObj_type (wpAny_bind (wpAny_pure (wpAny_pure ⟨_, rfl, wpAny_pure h⟩))) htake)
    | exact wpAny_bind (wpAny_bind (m := Builtin.Tuple.tupleExact _) (wpAny_newObj_type (wpAny_pure (wpAny_pure ⟨_, rfl, wpAny_pure h⟩)) htake))
    | exact wpAny_bind (wpAny_bind (m := Builtin.Tuple.tupleExact _) (wpAny_newObj_type (wpAny_pure ⟨_, rfl, wpAny_pure h⟩) htake))
end
end HT
namespace L3
open PySem PySem.Spec PyProof.Rows L2
/-! ### t[::-1] -/
def tRevT (K : PySem.W.Frag) (te : TE) : TE := fun σ H Q => te σ H fun x H1 => ∃ a xs, x = .ref a ∧ SqT K H1 a xs ∧ ∀ p, H1 p = none → Q (.ref p) (upd H1 p (.tup xs.reverse))
theorem pe_revT {X : Cx} {e : Expr} {te : TE} {k : Nat} {p1 p2 p3 pos : Pos} (he : PE X e te) : PE X (.Subscript e (.Slice none none (some (.UnaryOp .USub (.Constant (.int 1) k p1) p2)) p3) pos) (tRevT X.K te) := by
  refine ⟨fun pins s σ H Q I h => ?_⟩
  refine Subscript_ (thn (he.run pins s σ H _ I h) fun v s1 ⟨x, H1, I1, r1, q1⟩ => ?_)
  obtain ⟨a, xs, ex, hx, q⟩ := q1
  subst ex
  cases r1
  have hst : PO X (some (.UnaryOp .USub (.Constant (.int 1) k p1) p2)) (tPart (tUn (rU fun i => .int (-i)) (tC (.int 1)))) := po_some (pe_un un_neg pe_int)
  refine wpAny_Slice (thn (po_none.run pins s1 σ H1 (fun o H2 => o = none ∧ H2 = H1) I1 ⟨rfl, rfl⟩) fun vl s2 ⟨l, H2, I2, pl, el, e2⟩ => ?_)
  subst el e2
  refine thn (po_none.run pins s2 σ H2 (fun o H3 => o = none ∧ H3 = H2) I2 ⟨rfl, rfl⟩) fun vu s3 ⟨u, H3, I3, pu, eu, e3⟩ => ?_
  subst eu e3
  refine thn (hst.run pins s3 σ H3 (fun o H4 => o = some (-1) ∧ H4 = H3) I3 ⟨1, rfl, -1, rfl, rfl, rfl⟩) fun vs s4 ⟨o, H4, I4, ps, eo, e4⟩ => ?_
  subst eo e4
  have I5 : Inv X pins σ H4 { s4 with heap := s4.heap.push { cls := .type "slice", data := .fields #[vl, vu, vs] } } := I4.kept (t' := s4.toks) fun b ob q => Heap.get?_push_of_some _ q
  obtain ⟨its, r, ht, hz⟩ := I5.tuple hx
  have hlen := r.length
  show wpAny (model X.prog X.w) X.A (subscriptTail e (.Slice none none (some (.UnaryOp .USub (.Constant (.int 1) k p1) p2)) p3) (.ref a) (.ref s4.heap.objs.size)) (EP X pins σ Q) X.xe { s4 with heap := s4.heap.push { cls := .type "slice", data := .fields #[vl, vu, vs] } }
  refine tail_any (ops := [.ref a, .ref s4.heap.objs.size]) ht.typeIs (PyProof.Rows.slot_tuple_getitem.lookup) ?_ (by with_unfolding_all rfl)
  refine HT.getItem_tuple_rev ht (Heap.IsSliceOf.new _ vl vu vs) pl pu ps ?_ (by rw [List.size_toArray]; omega)
  refine ⟨.ref _, _, I5.laid (t' := s4.toks) (o := .tup xs.reverse) (fun b ob q => Heap.get?_push_of_some _ q) (Nat.le_refl _) ?_, rfl, q _ (I5.hok.fresh (Nat.le_refl _))⟩
  exact ⟨by rw [List.length_reverse]; exact hz, _, r.reverse, IsTup.new _ _⟩
theorem erev {K : PySem.W.Frag} {te : TE} {δ : List Sl} {ds : List PyData} (h : EvD te δ (.tuple ds)) : EvD (tRevT K te) δ (.tuple ds.reverse) := .mk fun B S H σ Q f q => h.run f fun v S1 H1 x1 d1 => by
  cases d1 with
  | tup a c => exact ⟨_, _, rfl, SqT.of (x1.sub _ _ a), fun p hp => q _ _ _ (x1.trans (Xt.fresh x1.sub hp)) (.tup upd_same (c.reverse.up (same_upd (x1.sub.free hp))))⟩
/-! ### {k: v}, k a tuple -/
theorem pe_disp1T {X : Cx} {pos : Pos} {k v : Expr} {tk tv : TE} (hu : X.A.units + 1 < cLine) (hk : PE X k tk) (hv : PE X v tv) : PE X (.Dict [some k] [v] pos) (tDisp1T tk tv) := by
  refine ⟨fun pins s σ H Q I q => ?_⟩
  have hn := I.hok.fresh (Nat.le_refl s.heap.objs.size)
  have I1 := I.laid (a := s.heap.objs.size) (o := .dT []) (h' := s.heap.push { cls := .type "dict", data := .dict #[] }) (t' := s.toks) (fun _ _ q => Heap.get?_push_of_some _ q) (Nat.le_refl _) (dt_empty s.heap I.big)
  have hz := zip_pairTrees (env := X.env) [some k] [v] (pos := pos) rfl rfl
  have hln := pairTrees_length (env := X.env) [some k] [v] (pos := pos) rfl rfl
  rw [arm_eval_Dict, hz, dictDisplay_pairs _ (fun z => by rw [z] at hln; cases hln) (by rw [hln]; exact (by decide : 1 < 17))]
  refine wpAny_bind (wpAny_standAt (wpAny_bind (wpAny_subDictH (knd := tupleKind (mixKind X.prog X.w)) (Q := fun d s' => wpAny (model X.prog X.w) X.A (pure (Value.ref d)) (EP X pins σ Q) X.xe s') (show X.A.units < cLine by omega) (by rw [hln]; exact (by decide : 1 ≤ 15)) ?_)))
  have W : PPs X pos [some k] [v] [(tk, tv)] := pps_cons hk hv pps_nil
  refine thn (W.run pins _ σ _ (fun ps H2 => match ps with | [(x, y)] => ∃ b k', x = .ref b ∧ H2 b = some (.tup (k'.map kV)) ∧ H2 s.heap.objs.size = some (.dT []) ∧ Q (.ref s.heap.objs.size) (upd H2 s.heap.objs.size (.dT [(k', y)])) | _ => False) I1 (q _ hn)) fun ws s2 h2 => ?_
  · obtain ⟨ps, H2, I2, rel, q2⟩ := h2
    obtain ⟨x, y, rfl⟩ : ∃ x y, ps = [(x, y)] := by
      match ps, q2 with
      | [(x, y)], _ => exact ⟨x, y, rfl⟩
    obtain ⟨b, k', ex, hb, hd, q2⟩ := q2
    subst ex
    cases rel with
    | cons r1 r2 =>
      cases r2
      obtain ⟨ra, rb⟩ := r1
      rename_i pr
      obtain ⟨u1, u2⟩ := pr
      have ra : u1 = Value.ref b := ra
      subst ra
      obtain ⟨z, hdm, xs, rel, dd⟩ := dt_of I2.hok hd
      cases rel
      refine ⟨[(k', b, u2)], ⟨rfl, rfl, key_of I2.hok hb, True.intro⟩, dd, fun h' tk dd' hs => wpAny_pure ?_⟩
      obtain ⟨o, es, ep, hq, h2, h3, h4, _, h5⟩ := dd'
      refine ⟨.ref s.heap.objs.size, _, ?_, rfl, q2⟩
      refine d_write I2 (by rw [hd]; exact True.intro) hs ⟨o, hq⟩ ⟨by show 1 ≤ sizeLine; decide, hdm, _, .cons ⟨rfl, ?_, rb⟩ .nil, o, es, ep, hq, h2, h3, h4, h5⟩
      rw [upd_ne (ne_of hb hd (fun z => nomatch z))]
      exact hb
end L3
/-! L3E: freezing; a list's item stored; two for. -/
namespace L3
open PySem L2
/-- a list of one's own is not changed any more -/
theorem ex_frz {t : TS} {δ : List Sl} {i : Nat} {xs : List PyData} {o : Out} (h : δ[i]? = some (.m xs)) (g : Ex t (δ.set i (.d (.list xs))) o) : Ex t δ o := fun B S H σ D f a => by
  rcases f.val i _ h with z | ⟨v, e, p, vs, rfl, hS, hH, c⟩
  · cases z
  have hB := f.own i _ _ h rfl e
  have x : XB NoM B S H (upd S p (.lst vs)) H := ⟨same_upd hS, fun b o _ _ z => z, fun b z => z, fun b o z => by
    by_cases hb : b = p
    · subst hb; rw [upd_same] at z; rw [hH]; exact z
    · rw [upd_ne hb] at z; exact f.sub b o z, fun b o z => by
    by_cases hb : b = p
    · subst hb; exact .inr hB
    · rw [upd_ne hb] at z; exact .inl z⟩
  have f1 : Fr B (upd S p (.lst vs)) H (σ.set i (some (.ref p))) (δ.set i (.d (.list xs))) := by
    have hl : i < δ.length := (List.getElem?_eq_some_iff.mp h).1
    have key : ∀ (j : Nat) (s : Sl), (δ.set i (.d (.list xs)))[j]? = some s → (j = i ∧ s = .d (.list xs)) ∨ (j ≠ i ∧ δ[j]? = some s) := fun j s e => by
      by_cases hj : j = i
      · subst hj
        rw [List.getElem?_set_self hl] at e
        exact .inl ⟨rfl, (Option.some.inj e).symm⟩
      · rw [List.getElem?_set_ne (Ne.symm hj)] at e
        exact .inr ⟨hj, e⟩
    refine ⟨by rw [List.length_set, List.length_set]; exact f.len, x.sub, f.dB, fun j s e2 => ?_, fun j s q e2 o q2 => ?_, fun j k s s' q e2 e3 m m' q1 q2 => ?_⟩
    · rcases key j s e2 with ⟨rfl, rfl⟩ | ⟨hj, e1⟩
      · exact .inr ⟨_, by rw [List.getElem?_set_self (by rw [f.len]; exact hl)], .lst upd_same (c.up (same_upd hS))⟩
      · rw [List.getElem?_set_ne (Ne.symm hj)]
        rcases f.val j s e1 with z | ⟨w, a1, b1⟩
        · exact .inl z
        · refine .inr ⟨w, a1, ?_⟩
          have np : ∀ q, Mu s = true → w = .ref q → q ≠ p := fun q m z y => by
            subst z y
            exact hj (f.sep j i s _ _ e1 h m rfl a1 e)
          cases s with
          | u => exact True.intro
          | d y => exact Dt.up b1 (same_upd hS)
          | m ys =>
            obtain ⟨q, ws, rfl, a2, b2, c2⟩ := b1
            exact ⟨q, ws, rfl, by rw [upd_ne (np q rfl rfl)]; exact a2, b2, c2.up (same_upd hS)⟩
          | q kvs =>
            obtain ⟨q, rfl, a2, b2⟩ := b1
            exact ⟨q, rfl, by rw [upd_ne (np q rfl rfl)]; exact a2, b2⟩
          | t q =>
            obtain ⟨rfl, a2, b2⟩ := b1
            exact ⟨rfl, by rw [upd_ne (np q rfl rfl)]; exact a2, b2⟩
    · rcases key j s e2 with ⟨rfl, rfl⟩ | ⟨hj, e1⟩
      · cases o
      · rw [List.getElem?_set_ne (Ne.symm hj)] at q2
        exact f.own j s q e1 o q2
    · rcases key j s e2 with ⟨rfl, rfl⟩ | ⟨hj, e1⟩
      · cases m
      · rcases key k s' e3 with ⟨rfl, rfl⟩ | ⟨hk, e4⟩
        · cases m'
        · rw [List.getElem?_set_ne (Ne.symm hj)] at q1
          rw [List.getElem?_set_ne (Ne.symm hk)] at q2
          exact f.sep j k s s' q e1 e4 m m' q1 q2
  have es : σ.set i (some (.ref p)) = σ := by
    refine List.ext_getElem? fun j => ?_
    by_cases hj : j = i
    · subst hj
      rw [List.getElem?_set_self (List.getElem?_eq_some_iff.mp e).1, e]
    · rw [List.getElem?_set_ne (Ne.symm hj)]
  rw [es] at f1
  exact g B _ H σ D f1 (a.from x)
theorem ex_retE {te : TE} {δ : List Sl} {x y : PyData} (h : EvD te δ x) (e : x = y) : Ex (tRet te) δ (.rt y) := e ▸ ex_ret h
theorem etupl {ta : TA} {δ : List Sl} {xs : List PyData} (ha : EvA ta δ xs) (hz : Nat.ble xs.length 1000 = true) : EvD (tTup ta) δ (.tuple xs) := ev_tup ha (sz_small (Nat.le_of_ble_eq_true hz))
theorem elst {ta : TA} {δ : List Sl} {xs : List PyData} (ha : EvA ta δ xs) (hz : Nat.ble xs.length 1000 = true) : EvD (tLst ta) δ (.list xs) := ev_lst ha (sz_small (Nat.le_of_ble_eq_true hz))
section
variable {P : Program} {w : World} {K : PySem.W.Frag} {mg : Str → Option Value} {base : Heap}
/-- .. of a def that comes to its end: None -/
theorem def_okN {x : Str} {ps N : List Str} {st : Stmt} {k : Nat} {R : List PyData → PyData → Prop} (F : Def K mg x ps st) (sc : FnScope N ps (defScope st)) (hl : ∀ ds r, R ds r → ds.length = ps.length)
    (hb : ∀ (f : Addr) (cdv : Value) (A : Around) (outer : List Env) (s : Shared) (H : Hp) (E : XK) (ds : List PyData) (r : PyData), Room k (A.deeper (PyProof.Rows.envOfC x (defScope st) s.heap.objs.size f cdv)) → R ds r →
      r = .none ∧ ∃ t δ', PSs (cxOf CX0 P w K mg base N x (defScope st) f cdv A outer s H E).nox (defBody st) t ∧ Ex t (stD N ds) (.nx δ')) : Cal P w K mg base x ps (k + 1) (spD R) := by
  obtain ⟨f, fd, F0, hm, hbd⟩ := F.ex
  refine ⟨f, fd, F0.ok sc (fun vs H Q E h => ?_) (fun cdv A outer s H vs Q E hr h => ?_), hm, F0.kp, hbd⟩
  · obtain ⟨S, ds, r, _, c, hR, _⟩ := h
    rw [c.length]
    exact hl ds r hR
  · obtain ⟨S, ds, r, e, c, hR, q⟩ := h
    obtain ⟨rfl, t, δ', h1, h2⟩ := hb f cdv A outer s H E ds r hr hR
    exact ⟨t, h1, h2 H S H _ _ (Fr.start e c) fun S' H' σ' x' f' => q .non S' H' x' .non⟩
end
theorem ev_to {te : TE} {δ : List Sl} {x y : PyData} (h : EvD te δ x) (e : x = y) : EvD te δ y := e ▸ h
theorem evt_to {te : TT} {δ : List Sl} {x y : Bool} (h : EvT te δ x) (e : x = y) : EvT te δ y := e ▸ h
theorem elstM {ta : TA} {δ : List Sl} {xs : List PyData} (ha : EvA ta δ xs) (hz : Nat.ble xs.length 1000 = true) : Ev (tLst ta) δ (.m xs) := ev_lstM ha (sz_small (Nat.le_of_ble_eq_true hz))
theorem ex_setD {te : TE} {δ : List Sl} {i : Nat} {x : PyData} (h : EvD te δ x) : Ex (tAsg te (gName i)) δ (.nx (δ.set i (.d x))) := ex_set h
theorem ex_to {t : TS} {δ δ1 δ2 : List Sl} (h : Ex t δ (.nx δ1)) (e : δ1 = δ2) : Ex t δ (.nx δ2) := e ▸ h
/-- xs[k] = e -/
theorem ex_setM {i : Nat} {te tk : TE} {δ : List Sl} {xs : List PyData} {x : PyData} {k : Nat} (hi : δ[i]? = some (.m xs)) (he : EvD te δ x) (hk : EvD tk δ (.int (k : Int))) (hl : k < xs.length) : Ex (tAsg te (gSub (tVar i) tk rSetL)) δ (.nx (δ.set i (.m (xs.set k x)))) := fun B S H σ D f a => by
  rcases f.val i _ hi with z | ⟨v, e, p, vs, rfl, hS, hH, c⟩
  · cases z
  refine he.run f fun w S1 H1 x1 d1 => ⟨_, e, hk.run (f.ext x1) fun u S2 H2 x2 d2 => ?_⟩
  have x12 := x1.trans x2
  have hH2 := x12.same _ _ hH
  have hS2 : S2 p = none := still x12 hS (by rw [hH]; intro z; cases z)
  have hB := f.own i _ _ hi rfl e
  cases d2
  refine ⟨p, vs, (k : Int), k, rfl, rfl, hH2, ?_, ?_⟩
  · unfold ixN
    rw [c.length, if_pos (by omega), if_pos (by omega), Int.toNat_natCast]
  · refine a S2 _ σ ((x12.low f.dB).trans (xb_wr x2.sub hS2 (by rw [hH2]; intro z; cases z) (.inl hB))) ((f.ext x12).wr hi rfl e hS2 (by rw [hH2]; intro z; cases z) rfl (fun _ => hB) ⟨p, _, rfl, hS2, upd_same, ?_⟩)
    have set_ : ∀ {ds : List PyData} {vs : List V} (k : Nat), DtAll S2 vs ds → DtAll S2 (vs.set k w) (ds.set k x) := by
      intro ds
      induction ds with
      | nil => intro vs k h; cases h; exact .nil
      | cons d ds ih =>
        intro vs k h
        cases h with
        | cons a b =>
          cases k with
          | zero => exact .cons (d1.up x2.st) b
          | succ k => exact .cons a (ih k b)
    exact set_ k (c.up x12.st)
theorem Fr.stay1 {B S H S' H' : Hp} {σ : St} {δ : List Sl} (f : Fr B S H σ δ) (hn : ∀ (n : Nat) (s : Sl), δ[n]? = some s → Mu s = false) (e : Same S S') (n : Nat) (s : Sl) (h : δ[n]? = some s) : s = .u ∨ ∃ v, σ[n]? = some (some v) ∧ VS S' H' v s := by
  rcases f.val n s h with z | ⟨v, a, b⟩
  · exact .inl z
  · refine .inr ⟨v, a, ?_⟩
    have m := hn n s h
    cases s with
    | u => exact True.intro
    | d y => exact Dt.up b e
    | m ys => cases m
    | q kvs => cases m
    | t a => cases m
theorem Fr.stay {B S H S' H' : Hp} {σ : St} {δ : List Sl} (f : Fr B S H σ δ) (hn : ∀ (n : Nat) (s : Sl), δ[n]? = some s → Mu s = false) (e : Same S S') (e' : Same S' H') (hd : ∀ b, H' b = none → B b = none) : Fr B S' H' σ δ :=
  ⟨f.len, e', hd, fun n s h => f.stay1 hn e n s h, f.own, f.sep⟩
theorem tYes_mk {σ : St} {H : Hp} {Q : Bool → Hp → Prop} (h : Q true H) : tYes σ H Q := h
/-- [e for a in xs for b in a] -/
theorem ev_lc2 {wi wi1 : TI} {g g1 : TG} {te : TE} {vs vs1 : List Nat} {δ : List Sl} {ds : List PyData} (ess : List (List PyData)) (hi : EvI wi δ ds) (hk : ess.length = ds.length) (hz : ess.flatten.length ≤ sizeLine)
    (hs : ∀ (i : Nat) (d : PyData) (es : List PyData), ds[i]? = some d → ess[i]? = some es → ∃ ws δ', EvG g (wipeD δ vs) d ws δ' ∧ (∀ j, j ∈ ws → j ∈ vs) ∧ (∀ (n : Nat) (s : Sl), δ'[n]? = some s → Mu s = false) ∧ EvI wi1 δ' es ∧
      ∀ (k : Nat) (e : PyData), es[k]? = some e → ∃ ws1 δ2, EvG g1 (wipeD δ' vs1) e ws1 δ2 ∧ (∀ j, j ∈ ws1 → j ∈ vs1) ∧ EvD te δ2 e) :
    EvD (tLc2 wi g tYes wi1 g1 tYes te vs vs1) δ (.list ess.flatten) := .mk fun B S H σ Q f q => hi B S H σ _ f fun J S1 H1 x1 ok => by
  intro D hD
  refine ⟨fun i m H2 => m = ds.length - i ∧ i ≤ ds.length ∧ ∃ S2 acc, Xt S1 H1 S2 H2 ∧ S2 D = none ∧ H2 D = some (.lst acc) ∧ DtAll S2 acc (ess.take i).flatten, ⟨ds.length, by simp, Nat.zero_le _, S1, [], Xt.freshM x1.sub hD, x1.sub.free hD, upd_same, by simpa using DtAll.nil⟩, ?_⟩
  rintro i m H2 ⟨rfl, hle, S2, acc, x2, sD, hD2, da⟩
  have eS : Same S1 S2 := x2.st
  have eH : Same S1 H2 := eS.trans x2.sub
  by_cases hlt : i < ds.length
  · refine .inr ⟨ok.go i H2 eH hlt, fun H' => i + 1 ≤ ds.length ∧ ∃ S2 acc, Xt S1 H1 S2 H' ∧ S2 D = none ∧ H' D = some (.lst acc) ∧ DtAll S2 acc (ess.take (i + 1)).flatten, fun H' h => ⟨ds.length - (i + 1), by omega, rfl, h⟩, fun x H' y => ?_⟩
    obtain ⟨S3, d, x3, hd, dd⟩ := ok.yld i H2 x H' S2 eS x2.sub hlt y
    obtain ⟨es, hes⟩ : ∃ es, ess[i]? = some es := ⟨_, List.getElem?_eq_getElem (by rw [hk]; exact hlt)⟩
    obtain ⟨ws, δ', hg, hws, hno, hin, hin2⟩ := hs i d es hd hes
    have f3 : Fr B S3 H' (wipe σ vs) (wipeD δ vs) := (((f.ext x1).ext x2).ext x3).wipe vs
    have ekeep : (ess.take (i + 1)).flatten = (ess.take i).flatten ++ es := by
      rw [List.take_add_one, hes, List.flatten_append]
      simp
    have elen : (ess.take (i + 1)).flatten.length ≤ ess.flatten.length := by
      have e := List.take_append_drop (i + 1) ess
      have e2 : ess.flatten = (ess.take (i + 1)).flatten ++ (ess.drop (i + 1)).flatten := by rw [← List.flatten_append, e]
      rw [e2, List.length_append]
      exact Nat.le_add_right _ _
    rw [ekeep, List.length_append] at elen
    refine hg B S3 H' _ x _ f3 dd fun σ' f4 l4 e4 => ⟨wipe_eq l4 e4 hws, tYes_mk (iteT ?_)⟩
    refine hin B S3 H' σ' _ f4 fun J1 S4 H4 x4 ok1 => ?_
    have D3 : H' D = some (.lst acc) := x3.same _ _ hD2
    have s3 : S3 D = none := still x3 sD (by rw [hD2]; intro z; cases z)
    have D4 : H4 D = some (.lst acc) := x4.same _ _ D3
    have s4 : S4 D = none := still x4 s3 (by rw [D3]; intro z; cases z)
    have f44 := f4.ext x4
    have x14 := (x2.trans x3).trans x4
    refine ⟨fun j m H5 => m = es.length - j ∧ j ≤ es.length ∧ ∃ S5 acc, Xt S1 H1 S5 H5 ∧ Same S4 S5 ∧ S5 D = none ∧ H5 D = some (.lst acc) ∧ DtAll S5 acc ((ess.take i).flatten ++ es.take j), ⟨es.length, by simp, Nat.zero_le _, S4, acc, x14, Same.refl _, s4, D4, by simpa using (da.up x3.st).up x4.st⟩, ?_⟩
    rintro j m H5 ⟨rfl, hjle, S5, acc5, x5, y5, s5, D5, da5⟩
    have eH5 : Same S4 H5 := y5.trans x5.sub
    have f5 : Fr B S5 H5 σ' δ' := f44.stay hno y5 x5.sub fun b z => (f.ext x1).dB b (x5.dom b z)
    by_cases hjlt : j < es.length
    · refine .inr ⟨ok1.go j H5 eH5 hjlt, fun H6 => j + 1 ≤ es.length ∧ ∃ S5 acc, Xt S1 H1 S5 H6 ∧ Same S4 S5 ∧ S5 D = none ∧ H6 D = some (.lst acc) ∧ DtAll S5 acc ((ess.take i).flatten ++ es.take (j + 1)), fun H6 h => ⟨es.length - (j + 1), by omega, rfl, h⟩, fun x' H6 y => ?_⟩
      obtain ⟨S6, e, x6, he, de⟩ := ok1.yld j H5 x' H6 S5 y5 x5.sub hjlt y
      obtain ⟨ws1, δ2, hg1, hws1, hte⟩ := hin2 j e he
      have f6 : Fr B S6 H6 (wipe σ' vs1) (wipeD δ' vs1) := (f5.ext x6).wipe vs1
      refine hg1 B S6 H6 _ x' _ f6 de fun σ7 f7 l7 e7 => ⟨wipe_eq l7 e7 hws1, tYes_mk (iteT ?_)⟩
      refine hte.run f7 fun v S8 H8 x8 d8 => ?_
      have D6 : H6 D = some (.lst acc5) := x6.same _ _ D5
      have s6 : S6 D = none := still x6 s5 (by rw [D5]; intro z; cases z)
      have D8 : H8 D = some (.lst acc5) := x8.same _ _ D6
      have s8 : S8 D = none := still x8 s6 (by rw [D6]; intro z; cases z)
      have x18 : Xt S1 H1 S8 H8 := (x5.trans x6).trans x8
      have x1D : Xt S1 H1 S8 (upd H8 D (.lst (acc5 ++ [v]))) := by
        refine ⟨x18.st, fun b o hm hb e => ?_, fun b e => ?_, fun b o e => ?_, x18.new⟩
        · have nb : b ≠ D := fun z => by subst z; rw [hD] at e; cases e
          rw [upd_ne nb]
          exact x18.keep b o hm hb e
        · by_cases hb : b = D
          · subst hb; exact hD
          · rw [upd_ne hb] at e; exact x18.dom b e
        · have nb : b ≠ D := fun z => by subst z; rw [s8] at e; cases e
          rw [upd_ne nb]
          exact x18.sub b o e
      refine ⟨acc5, D8, ?_, hjlt, S8, acc5 ++ [v], x1D, (y5.trans x6.st).trans x8.st, s8, upd_same, ?_⟩
      · have h1 := da5.length
        rw [List.length_append, List.length_take] at h1
        omega
      · have e9 : es.take (j + 1) = es.take j ++ [e] := by rw [List.take_add_one, he]; rfl
        rw [e9, ← List.append_assoc]
        exact ((da5.up x6.st).up x8.st).append (.one d8)
    · have ej : j = es.length := by omega
      subst ej
      rw [List.take_length] at da5
      exact .inl ⟨ok1.stop H5 eH5, hlt, S5, acc5, x5, s5, D5, by rw [ekeep]; exact da5⟩
  · have e : i = ds.length := by omega
    subst e
    refine .inl ⟨ok.stop H2 eH, q (.ref D) (upd S2 D (.lst acc)) H2 ?_ (.lst upd_same ?_)⟩
    · have x12 := x1.trans x2
      refine ⟨x12.st.trans (same_upd sD), x12.keep, x12.dom, fun b o e => ?_, fun b o e => ?_⟩
      · by_cases hb : b = D
        · subst hb; rw [upd_same] at e; rw [hD2]; exact e
        · rw [upd_ne hb] at e; exact x12.sub b o e
      · by_cases hb : b = D
        · subst hb; exact .inr (x1.dom _ hD)
        · rw [upd_ne hb] at e; exact x12.new b o e
    · have e2 : ess.take ds.length = ess := by rw [← hk, List.take_length]
      rw [e2] at da
      exact da.up (same_upd sD)
end L3
namespace L3
open PySem L2
/-! ### the rules with the written part named -/
section
variable {X : Cx} (K : PySem.W.Frag)
theorem ixK (h : X.K = K := by rfl) : IxR X (rIx K) := h ▸ ix_seq
theorem lenK (h : X.K = K := by rfl) : CallR X (.builtin "len") (rLen K) := h ▸ call_lenX
theorem tupK (h : X.K = K := by rfl) : CallR X (.type "tuple") (rTupleOf K) := h ▸ call_tupleX
theorem slK (h : X.K = K := by rfl) : SlR X (rSlX K) := h ▸ sl_any
theorem eqK (hu : X.A.units + 64 < cLine) (h : X.K = K := by rfl) : OpR X (compareOp .Eq) (rEqD K) := h ▸ op_eqD hu
theorem neK (hu : X.A.units + 64 < cLine) (h : X.K = K := by rfl) : OpR X (compareOp .NotEq) (rNeD K) := h ▸ op_neD hu
theorem isiK (h : X.K = K := by rfl) : CallR X (.builtin "isinstance") (rIsi K) := h ▸ call_isi
theorem isiTK (h : X.K = K := by rfl) : CallR X (.builtin "isinstance") (rIsiT K) := h ▸ call_isiT
theorem allK (hc : X.calm = true) (h : X.K = K := by rfl) : CallR X (.builtin "all") (rAll K) := h ▸ cr_all hc
theorem catK (h : X.K = K := by rfl) : OpR X (binaryOp .Add) (rCatX K) := h ▸ op_catX
theorem pi_seqK {tg l : Expr} {tl : TE} (hl : PE X l tl) (h : X.K = K := by rfl) : PI X tg l (iSeq K tl) := h ▸ pi_seq hl
theorem pi_enumK {e : Expr} {ta : TA} {p pos tpos : Pos} {elts : List Expr} {kk : Nat} (hg : Gl X "enumerate") (hm : X.mg "enumerate" = none) (ha : PA X [e] ta) (h : X.K = K := by rfl) (hs : starEach [e] X.env = [(false, eval e X.env)] := by rfl) :
    PI X (.Tuple elts kk tpos) (.Call (.Name "enumerate" p) [e] [] pos) (iEnum K ta) := h ▸ pi_enum hg hm ha hs
theorem pi_zipK {e e2 : Expr} {ta : TA} {p pos tpos : Pos} {elts : List Expr} {kk : Nat} (hg : Gl X "zip") (hm : X.mg "zip" = none) (ha : PA X [e, e2] ta) (h : X.K = K := by rfl)
    (hs : starEach [e, e2] X.env = (false, eval e X.env) :: starEach [e2] X.env := by rfl) (hpl : (backTo pos (starEach [e2] X.env)).any (·.1) = false := by rfl) :
    PI X (.Tuple elts kk tpos) (.Call (.Name "zip" p) [e, e2] [] pos) (RZ.iZipA K ta) := h ▸ RZ.pi_zipA hg hm ha hs hpl
theorem pg_seqK {es : List Expr} {k : Nat} {t : TGs} {pos : Pos} (n : Nat) (hc : X.calm = true) (ha : PGs X es t) (h : X.K = K := by rfl)
    (hn : (assignEach es X.env).length = n := by rfl) (hst : (assignEach es X.env).findIdx? (·.1) = none := by rfl) : PG X (.Tuple es k pos) (gSeq K n t) := h ▸ pg_seq hc ha hn hst
theorem pe_revK {e : Expr} {te : TE} {k : Nat} {p1 p2 p3 pos : Pos} (he : PE X e te) (h : X.K = K := by rfl) : PE X (.Subscript e (.Slice none none (some (.UnaryOp .USub (.Constant (.int 1) k p1) p2)) p3) pos) (tRevT K te) := h ▸ pe_revT he
end
end L3
/-! L3F: draws: a list of three ints at tn, which calls change; what comes is told by a property alone. The list stands in slot 0. -/
namespace L3
open PySem L2
abbrev MT (tn : Addr) : Addr → Prop := fun b => b = tn
structure Tin (tn : Addr) (c : Nat) (S H : Hp) : Prop where
  st : S tn = none
  at_ : ∃ x y z : Int, H tn = some (.lst [.int x, .int y, .int z]) ∧ 0 ≤ z ∧ z ≤ (c : Int)
theorem Tin.ne {tn : Addr} {c : Nat} {S H : Hp} (t : Tin tn c S H) : H tn ≠ none := by
  obtain ⟨x, y, z, h, _⟩ := t.at_
  rw [h]; intro q; cases q
theorem Tin.le {tn : Addr} {c c' : Nat} {S H : Hp} (t : Tin tn c S H) (h : c ≤ c') : Tin tn c' S H := by
  obtain ⟨x, y, z, a, b, d⟩ := t.at_
  exact ⟨t.st, x, y, z, a, b, by omega⟩
theorem Tin.ext {tn : Addr} {c : Nat} {B S H S' H' : Hp} (t : Tin tn c S H) (x : XB NoM B S H S' H') (hB : B tn ≠ none) : Tin tn c S' H' := by
  obtain ⟨a, b, d, h, e⟩ := t.at_
  exact ⟨still x t.st hB, a, b, d, x.keep _ _ (fun z => z) hB h, e⟩
/-- the frame behind a draw -/
theorem Fr.extT {B S H S' H' : Hp} {σ : St} {δ : List Sl} {tn : Addr} (f : Fr B S H σ δ) (h0 : δ[0]? = some (.t tn)) (x : XB (MT tn) H S H S' H') : Fr B S' H' σ δ := by
  obtain ⟨t0, ht0⟩ : σ[0]? = some (some (.ref tn)) ∧ True := by
    rcases f.val 0 _ h0 with z | ⟨v, a, b, _⟩
    · cases z
    · exact ⟨by rw [a, b], True.intro⟩
  refine ⟨f.len, x.sub, fun b h => f.dB b (x.dom b h), fun i s h => ?_, f.own, f.sep⟩
  rcases f.val i s h with z | ⟨v, a, b⟩
  · exact .inl z
  · refine .inr ⟨v, a, ?_⟩
    have np : ∀ p, v = .ref p → Ow s = true → ¬ MT tn p := fun p e o q => by
      have q : p = tn := q
      subst e q
      have e0 := f.sep i 0 s _ p h h0 (Ow.mu o) rfl a t0
      subst e0
      rw [h] at h0
      cases h0
      cases o
    cases s with
    | u => exact True.intro
    | d y => exact Dt.up b x.st
    | m ys =>
      obtain ⟨q, ws, rfl, a2, b2, c2⟩ := b
      have hn : H q ≠ none := by rw [b2]; intro z; cases z
      exact ⟨q, ws, rfl, still x a2 hn, x.keep _ _ (np q rfl rfl) hn b2, c2.up x.st⟩
    | q kvs =>
      obtain ⟨q, rfl, a2, b2⟩ := b
      have hn : H q ≠ none := by rw [b2]; intro z; cases z
      exact ⟨q, rfl, still x a2 hn, x.keep _ _ (np q rfl rfl) hn b2⟩
    | t q =>
      obtain ⟨rfl, a2, b2⟩ := b
      exact ⟨rfl, still x a2 b2, fun z => b2 (x.dom _ z)⟩
abbrev XT (tn : Addr) (S H S' H' : Hp) : Prop := XB (MT tn) H S H S' H'
theorem XT.trans {tn : Addr} {S H S1 H1 S2 H2 : Hp} (a : XT tn S H S1 H1) (b : XT tn S1 H1 S2 H2) : XT tn S H S2 H2 := XB.trans a (b.low a.dom fun _ z => z)
theorem Xt.toT {tn : Addr} {S H S' H' : Hp} (a : Xt S H S' H') : XT tn S H S' H' := XB.low a (fun _ z => z) fun _ z => z.elim
/-! ### expressions -/
def EvN (tn : Addr) (t : TE) (δ : List Sl) (c : Nat) (P : PyData → Prop) (c' : Nat) : Prop := ∀ (B S H : Hp) (σ : St) (Q : VK), Fr B S H σ δ → δ[0]? = some (.t tn) → Tin tn c S H → (∀ v S' H' x, P x → XT tn S H S' H' → Tin tn c' S' H' → Dt S' v x → Q v H') → t σ H Q
def EvNA (tn : Addr) (t : TA) (δ : List Sl) (c : Nat) (P : List PyData → Prop) (c' : Nat) : Prop := ∀ (B S H : Hp) (σ : St) (Q : List V → Hp → Prop), Fr B S H σ δ → δ[0]? = some (.t tn) → Tin tn c S H → (∀ vs S' H' xs, P xs → XT tn S H S' H' → Tin tn c' S' H' → DtAll S' vs xs → Q vs H') → t σ H Q
section
variable {tn : Addr} {δ : List Sl} {c c1 c2 : Nat} {K : PySem.W.Frag}
theorem evn_pure {t : TE} {x : PyData} (h : EvD t δ x) : EvN tn t δ c (fun y => y = x) c := fun B S H σ Q f h0 tt q => h.run f fun v S1 H1 x1 d1 => q v S1 H1 x rfl x1.toT (tt.ext x1 tt.ne) d1
theorem evn_to {t : TE} {P P' : PyData → Prop} (h : EvN tn t δ c P c1) (hp : ∀ x, P x → P' x) (hc : c1 ≤ c2 := by exact Nat.le_refl _) : EvN tn t δ c P' c2 := fun B S H σ Q f h0 tt q => h B S H σ Q f h0 tt fun v S1 H1 x p x1 t1 d1 => q v S1 H1 x (hp x p) x1 (t1.le hc) d1
theorem evna_nil : EvNA tn tNil δ c (fun xs => xs = []) c := fun B S H σ Q f h0 tt q => q [] S H [] rfl (XB.refl f.sub) tt .nil
theorem evna_cons {ta : TE} {tr : TA} {P : PyData → Prop} {Ps : List PyData → Prop} (ha : EvN tn ta δ c P c1) (hr : EvNA tn tr δ c1 Ps c2) : EvNA tn (tCons ta tr) δ c (fun xs => ∃ y ys, xs = y :: ys ∧ P y ∧ Ps ys) c2 := fun B S H σ Q f h0 tt q =>
  ha B S H σ _ f h0 tt fun v S1 H1 x p x1 t1 d1 => hr B S1 H1 σ _ (f.extT h0 x1) h0 t1 fun vs S2 H2 xs ps x2 t2 d2 => q (v :: vs) S2 H2 (x :: xs) ⟨x, xs, rfl, p, ps⟩ (x1.trans x2) t2 (.cons (d1.up x2.st) d2)
theorem evn_op {r : R2} {ta tb : TE} {P1 P2 P : PyData → Prop} (ha : EvN tn ta δ c P1 c1) (hb : EvN tn tb δ c1 P2 c2)
    (hr : ∀ x y, P1 x → P2 y → ∃ z, P z ∧ ∀ (S H : Hp) (v w : V) (Q : VK), Same S H → Dt S v x → Dt S w y → (∀ u S' H', Xt S H S' H' → Dt S' u z → Q u H') → r v w H Q) : EvN tn (tOp r ta tb) δ c P c2 := fun B S H σ Q f h0 tt q =>
  ha B S H σ _ f h0 tt fun v S1 H1 x p x1 t1 d1 => hb B S1 H1 σ _ (f.extT h0 x1) h0 t1 fun w S2 H2 y p2 x2 t2 d2 => by
    obtain ⟨z, pz, hz⟩ := hr x y p p2
    exact hz S2 H2 v w Q x2.sub (d1.up x2.st) d2 fun u S3 H3 x3 d3 => q u S3 H3 z pz ((x1.trans x2).trans x3.toT) (t2.ext x3 t2.ne) d3
/-- two ints -/
theorem evn_I0 {g : Int → Int → Int} {ta tb : TE} {p1 p2 : Int → Prop} (ha : EvN tn ta δ c (fun x => ∃ i, x = .int i ∧ p1 i) c1) (hb : EvN tn tb δ c1 (fun x => ∃ i, x = .int i ∧ p2 i) c2) :
    EvN tn (tOp (rI0 fun i j => .int (g i j)) ta tb) δ c (fun x => ∃ k, x = .int k ∧ ∃ i j, p1 i ∧ p2 j ∧ k = g i j) c2 :=
  evn_op ha hb fun x y ⟨i, e1, q1⟩ ⟨j, e2, q2⟩ => by
    subst e1 e2
    exact ⟨.int (g i j), ⟨_, rfl, i, j, q1, q2, rfl⟩, fun S H v w Q e d1 d2 q => ⟨i, j, d1.isInt, d2.isInt, q _ S H (XB.refl e) (.int _)⟩⟩
theorem evn_eq {ta tb : TE} {p1 p2 : Int → Prop} (ha : EvN tn ta δ c (fun x => ∃ i, x = .int i ∧ p1 i) c1) (hb : EvN tn tb δ c1 (fun x => ∃ i, x = .int i ∧ p2 i) c2) :
    EvN tn (tOp (rEqD K) ta tb) δ c (fun x => ∃ b, x = .bool b) c2 :=
  evn_op ha hb fun x y ⟨i, e1, q1⟩ ⟨j, e2, q2⟩ => by
    subst e1 e2
    exact ⟨.bool _, ⟨_, rfl⟩, fun S H v w Q e d1 d2 q => ⟨.int i, .int j, Dt.toDp e _ d1, Dt.toDp e _ d2, rfl, rfl, q _ S H (XB.refl e) (.bl _)⟩⟩
/-- an item of a list or a tuple at a drawn place -/
theorem evn_ix {ta tb : TE} {k : Bool} {ds : List PyData} {P : PyData → Prop} (ha : EvD ta δ (sq k ds)) (hb : EvN tn tb δ c (fun x => ∃ i, x = .int i ∧ ∃ j : Nat, i = (j : Int) ∧ j < ds.length) c1) (hP : ∀ d ∈ ds, P d) : EvN tn (tOp (rIx K) ta tb) δ c P c1 :=
  evn_op (evn_pure ha) hb fun x y e1 ⟨i, e2, j, e3, hj⟩ => by
    subst e1 e2 e3
    refine ⟨ds[j], hP _ (List.getElem_mem _), fun S H v w Q e d1 d2 q => ?_⟩
    obtain ⟨a, vs, rfl, s, cc⟩ := d1.sqLT (K := K) e
    obtain ⟨u, hu, du⟩ := cc.atI (atI_nat (List.getElem?_eq_getElem hj))
    rcases s with s | s
    · exact .inl ⟨a, vs, _, u, rfl, d2.isInt, s, hu, q u S H (XB.refl e) du⟩
    · exact .inr (.inl ⟨a, vs, _, u, rfl, d2.isInt, s, hu, q u S H (XB.refl e) du⟩)
theorem evn_tup {ta : TA} {Ps : List PyData → Prop} (ha : EvNA tn ta δ c Ps c1) (hz : ∀ xs, Ps xs → xs.length ≤ 1000) : EvN tn (tTup ta) δ c (fun x => ∃ xs, x = .tuple xs ∧ Ps xs) c1 := fun B S H σ Q f h0 tt q =>
  ha B S H σ _ f h0 tt fun vs S1 H1 xs ps x1 t1 d1 => ⟨by rw [d1.length]; exact sz_small (hz xs ps), fun p hp => by
    have xf := Xt.fresh (o := .tup vs) x1.sub hp
    exact q _ _ _ _ ⟨xs, rfl, ps⟩ (x1.trans xf.toT) (t1.ext xf t1.ne) (.tup upd_same (d1.up (same_upd (x1.sub.free hp))))⟩
theorem evn_lst {ta : TA} {Ps : List PyData → Prop} (ha : EvNA tn ta δ c Ps c1) (hz : ∀ xs, Ps xs → xs.length ≤ 1000) : EvN tn (tLst ta) δ c (fun x => ∃ xs, x = .list xs ∧ Ps xs) c1 := fun B S H σ Q f h0 tt q =>
  ha B S H σ _ f h0 tt fun vs S1 H1 xs ps x1 t1 d1 => ⟨by rw [d1.length]; exact sz_small (hz xs ps), fun p hp => by
    have xf := Xt.fresh (o := .lst vs) x1.sub hp
    exact q _ _ _ _ ⟨xs, rfl, ps⟩ (x1.trans xf.toT) (t1.ext xf t1.ne) (.lst upd_same (d1.up (same_upd (x1.sub.free hp))))⟩
/-- tuple(..) of a drawn list -/
theorem evn_tupleOf {ta : TE} {Ps : List PyData → Prop} (ha : EvN tn ta δ c (fun x => ∃ xs, x = .list xs ∧ Ps xs) c1) : EvN tn (tCB (rTupleOf K) (tCons ta tNil)) δ c (fun x => ∃ xs, x = .tuple xs ∧ Ps xs) c1 := fun B S H σ Q f h0 tt q =>
  ha B S H σ _ f h0 tt fun v S1 H1 x ⟨xs, e, ps⟩ x1 t1 d1 => by
    subst e
    cases d1 with
    | @lst a0 ys _ a cc => exact ⟨_, _, rfl, .inl ⟨SqL.of (x1.sub _ _ a), fun l hl => by
        have xf := Xt.fresh (o := .tup ys) x1.sub hl
        exact q _ _ _ _ ⟨xs, rfl, ps⟩ (x1.trans xf.toT) (t1.ext xf t1.ne) (.tup upd_same (cc.up (same_upd (x1.sub.free hl))))⟩⟩
/-! ### the promise of a def that draws -/
def spT (R : List PyData → (PyData → Prop) → Nat → Prop) : Sp := fun vs H Q _ => ∃ S tn c ws ds P k, vs = .ref tn :: ws ∧ Same S H ∧ Tin tn c S H ∧ c + k ≤ 2000 ∧ DtAll S ws ds ∧ R ds P k ∧ ∀ v S' H' x, P x → XT tn S H S' H' → Tin tn (c + k) S' H' → Dt S' v x → Q v H'
theorem evn_call {R : List PyData → (PyData → Prop) → Nat → Prop} {E : XK} {ta : TA} {ds : List PyData} {P : PyData → Prop} {k : Nat} (ha : EvA ta δ ds) (hr : R ds P k) (hc : c + k ≤ 2000) : EvN tn (tCall (spT R) [] E (tCons (tVar 0) ta)) δ c P (c + k) := fun B S H σ Q f h0 tt q => by
  rcases f.val 0 _ h0 with z | ⟨v, e, rfl, _⟩
  · cases z
  refine ⟨_, e, ha B S H σ _ f fun vs S1 H1 x1 d1 => ?_⟩
  exact ⟨S1, tn, c, vs, ds, P, k, by rw [List.append_nil], x1.sub, tt.ext x1 tt.ne, hc, d1, hr, fun v S2 H2 x p x2 t2 d2 => q v S2 H2 x p (x1.toT.trans x2) t2 d2⟩
/-! ### a comprehension whose items are drawn, k draws at most for each -/
theorem lcn_core {J : It} {g : TG} {te : TE} {vs : List Nat} {ds : List PyData} {P : PyData → Prop} {B S1 H1 : Hp} {σ : St} {Q : VK} (k : Nat) (ok : ItOk J S1 ds) (f : Fr B S1 H1 σ δ) (h0 : δ[0]? = some (.t tn)) (t1 : Tin tn c S1 H1) (hz : ds.length ≤ sizeLine)
    (hs : ∀ (i : Nat) (d : PyData), ds[i]? = some d → ∃ ws δ', EvG g (wipeD δ vs) d ws δ' ∧ (∀ j, j ∈ ws → j ∈ vs) ∧ δ'[0]? = some (.t tn) ∧ EvN tn te δ' (c + i * k) P (c + (i + 1) * k))
    (q : ∀ v S' H' es, es.length = ds.length → (∀ e ∈ es, P e) → XT tn S1 H1 S' H' → Tin tn (c + ds.length * k) S' H' → Dt S' v (.list es) → Q v H') :
    ∀ D, H1 D = none → ∃ W : Nat → Nat → Hp → Prop, (∃ m, W 0 m (upd H1 D (.lst []))) ∧ ∀ i m H, W i m H →
      (J.stop i H ∧ Q (.ref D) H) ∨ (J.go i H ∧ ∃ Nx : Hp → Prop, (∀ H', Nx H' → ∃ m', m' < m ∧ W (i + 1) m' H') ∧ ∀ x H', J.yld i H x H' → g x (wipe σ vs) H' fun σ2 H2 => wipe σ2 vs = wipe σ vs ∧ tYes σ2 H2 fun b H3 =>
        if b = true then te σ2 H3 fun y H4 => ∃ acc, H4 D = some (.lst acc) ∧ acc.length < sizeLine ∧ Nx (upd H4 D (.lst (acc ++ [y]))) else Nx H3) := by
  intro D hD
  have nD : tn ≠ D := fun z => by subst z; exact t1.ne hD
  refine ⟨fun i m H2 => m = ds.length - i ∧ i ≤ ds.length ∧ ∃ S2 acc es, XT tn S1 H1 S2 H2 ∧ Tin tn (c + i * k) S2 H2 ∧ S2 D = none ∧ H2 D = some (.lst acc) ∧ DtAll S2 acc es ∧ es.length = i ∧ ∀ e ∈ es, P e, ⟨ds.length, by simp, Nat.zero_le _, S1, [], [], (Xt.freshM f.sub hD).toT, ?_, f.sub.free hD, upd_same, .nil, rfl, fun e h => by cases h⟩, ?_⟩
  · rw [Nat.zero_mul, Nat.add_zero]
    exact t1.ext (Xt.freshM f.sub hD) t1.ne
  rintro i m H2 ⟨rfl, hle, S2, acc, es, x2, t2, sD, hD2, da, hes, hP⟩
  have eS : Same S1 S2 := x2.st
  have eH : Same S1 H2 := eS.trans x2.sub
  by_cases hlt : i < ds.length
  · refine .inr ⟨ok.go i H2 eH hlt, fun H' => i + 1 ≤ ds.length ∧ ∃ S2 acc es, XT tn S1 H1 S2 H' ∧ Tin tn (c + (i + 1) * k) S2 H' ∧ S2 D = none ∧ H' D = some (.lst acc) ∧ DtAll S2 acc es ∧ es.length = i + 1 ∧ ∀ e ∈ es, P e, fun H' h => ⟨ds.length - (i + 1), by omega, rfl, h⟩, fun x H' y => ?_⟩
    obtain ⟨S3, d, x3, hd, dd⟩ := ok.yld i H2 x H' S2 eS x2.sub hlt y
    obtain ⟨ws, δ', hg, hws, hδ, he⟩ := hs i d hd
    have f3 : Fr B S3 H' (wipe σ vs) (wipeD δ vs) := ((f.extT h0 x2).ext x3).wipe vs
    refine hg B S3 H' _ x _ f3 dd fun σ' f4 l4 e4 => ⟨wipe_eq l4 e4 hws, tYes_mk (iteT ?_)⟩
    have D3 : H' D = some (.lst acc) := x3.same _ _ hD2
    have s3 : S3 D = none := still x3 sD (by rw [hD2]; intro z; cases z)
    refine he B S3 H' σ' _ f4 hδ (t2.ext x3 t2.ne) fun v S5 H5 e pe x5 t5 d5 => ?_
    have D5 : H5 D = some (.lst acc) := x5.keep _ _ (fun z => nD (by have z : D = tn := z; exact z.symm)) (by rw [D3]; intro z; cases z) D3
    have s5 : S5 D = none := still x5 s3 (by rw [D3]; intro z; cases z)
    have x15 : XT tn S1 H1 S5 H5 := (x2.trans x3.toT).trans x5
    refine ⟨acc, D5, ?_, hlt, S5, acc ++ [v], es ++ [e], ⟨x15.st, fun b o hm hb e => ?_, fun b e => ?_, fun b o e => ?_, x15.new⟩, ?_, s5, upd_same, ((da.up x3.st).up x5.st).append (.one d5), by rw [List.length_append, hes, List.length_singleton], fun y hy => ?_⟩
    · have := da.length
      omega
    · have nb : b ≠ D := fun z => by subst z; rw [hD] at e; cases e
      rw [upd_ne nb]
      exact x15.keep b o hm hb e
    · by_cases hb : b = D
      · subst hb; exact hD
      · rw [upd_ne hb] at e; exact x15.dom b e
    · have nb : b ≠ D := fun z => by subst z; rw [s5] at e; cases e
      rw [upd_ne nb]
      exact x15.sub b o e
    · obtain ⟨a1, b1, z1, h1, h2⟩ := t5.at_
      exact ⟨t5.st, a1, b1, z1, by rw [upd_ne nD]; exact h1, h2⟩
    · rcases List.mem_append.mp hy with z | z
      · exact hP y z
      · have : y = e := by simpa using z
        rw [this]; exact pe
  · have e : i = ds.length := by omega
    subst e
    have xr : XT tn S1 H1 (upd S2 D (.lst acc)) H2 := by
      refine ⟨x2.st.trans (same_upd sD), x2.keep, x2.dom, fun b o e => ?_, fun b o e => ?_⟩
      · by_cases hb : b = D
        · subst hb; rw [upd_same] at e; rw [hD2]; exact e
        · rw [upd_ne hb] at e; exact x2.sub b o e
      · by_cases hb : b = D
        · subst hb; exact .inr hD
        · rw [upd_ne hb] at e; exact x2.new b o e
    refine .inl ⟨ok.stop H2 eH, q (.ref D) (upd S2 D (.lst acc)) H2 es hes hP xr ?_ (.lst upd_same (da.up (same_upd sD)))⟩
    obtain ⟨a1, b1, z1, h1, h2⟩ := t2.at_
    exact ⟨by rw [upd_ne nD]; exact t2.st, a1, b1, z1, h1, h2⟩
theorem evn_lc {wi : TI} {g : TG} {te : TE} {vs : List Nat} {ds : List PyData} {P : PyData → Prop} (k : Nat) (hi : EvI wi δ ds) (hz : ds.length ≤ sizeLine)
    (hs : ∀ (i : Nat) (d : PyData), ds[i]? = some d → ∃ ws δ', EvG g (wipeD δ vs) d ws δ' ∧ (∀ j, j ∈ ws → j ∈ vs) ∧ δ'[0]? = some (.t tn) ∧ EvN tn te δ' (c + i * k) P (c + (i + 1) * k)) :
    EvN tn (tLc wi g tYes te vs) δ c (fun x => ∃ es, x = .list es ∧ es.length = ds.length ∧ ∀ e ∈ es, P e) (c + ds.length * k) := fun B S H σ Q f h0 tt q => hi B S H σ _ f fun J S1 H1 x1 ok =>
  lcn_core k ok (f.ext x1) h0 (tt.ext x1 tt.ne) hz hs fun v S' H' es h1 h2 h3 h4 h5 => q v S' H' _ ⟨es, rfl, h1, h2⟩ (x1.toT.trans h3) h4 h5
theorem itok_range {S : Hp} (n : Nat) : ItOk (Itr 0 n) S ((List.range n).map fun (i : Nat) => PyData.int (i : Int)) := by
  refine ⟨fun i H e hi => ?_, fun H e => ?_, fun i H x H' S2 e1 e2 hi y => ?_⟩
  · rw [List.length_map, List.length_range] at hi
    exact hi
  · show n ≤ _
    rw [List.length_map, List.length_range]
    exact Nat.le_refl _
  · obtain ⟨rfl, rfl⟩ := y
    rw [List.length_map, List.length_range] at hi
    refine ⟨S2, .int (i : Int), XB.refl e2, by rw [List.getElem?_map, List.getElem?_range hi] <;> rfl, ?_⟩
    rw [Int.zero_add]
    exact .int _
/-- .. over a range of a drawn length, at most m -/
theorem evn_lcR {ta : TE} {g : TG} {te : TE} {vs : List Nat} {P : PyData → Prop} (k m : Nat) (ha : EvN tn ta δ c (fun x => ∃ i, x = .int i ∧ ∃ j : Nat, i = (j : Int) ∧ 1 ≤ j ∧ j ≤ m) c1) (hm : m ≤ 1000)
    (hs : ∀ (i : Nat), i < m → ∃ ws δ', EvG g (wipeD δ vs) (.int (i : Int)) ws δ' ∧ (∀ j, j ∈ ws → j ∈ vs) ∧ δ'[0]? = some (.t tn) ∧ EvN tn te δ' (c1 + i * k) P (c1 + (i + 1) * k)) :
    EvN tn (tLc (iRng1 (tCons ta tNil)) g tYes te vs) δ c (fun x => ∃ es, x = .list es ∧ 1 ≤ es.length ∧ es.length ≤ m ∧ ∀ e ∈ es, P e) (c1 + m * k) := fun B S H σ Q f h0 tt q =>
  ha B S H σ _ f h0 tt fun v S1 H1 x ⟨i, ei, j, ej, j1, j2⟩ x1 t1 d1 => by
    subst ei ej
    cases d1
    have hl : ((List.range j).map fun (i : Nat) => PyData.int (i : Int)).length = j := by rw [List.length_map, List.length_range]
    refine ⟨(j : Int), rfl, by omega, by omega, ?_⟩
    rw [Int.toNat_natCast]
    refine lcn_core (P := P) k (itok_range j) (f.extT h0 x1) h0 t1 (by rw [hl]; exact sz_small (by omega)) (fun i d hd => ?_) fun v S' H' es h1 h2 h3 h4 h5 => q v S' H' _ ⟨es, rfl, by rw [h1, hl]; exact j1, by rw [h1, hl]; exact j2, h2⟩ (x1.trans h3) (h4.le ?_) h5
    · have hi := (List.getElem?_eq_some_iff.mp hd).1
      rw [hl] at hi
      rw [List.getElem?_map, List.getElem?_range hi] at hd
      cases hd
      exact hs i (by omega)
    · rw [hl]
      exact Nat.add_le_add_left (Nat.mul_le_mul_right _ j2) _
end
/-! ### statements -/
def AftN (tn : Addr) (c' : Nat) (B S H : Hp) (D : Ends) : Out → Prop
  | .nx δ' => ∀ S' H' σ', XB (MT tn) B S H S' H' → Fr B S' H' σ' δ' → Tin tn c' S' H' → D.nx σ' H'
  | .rt x => ∀ v S' H', XB (MT tn) B S H S' H' → Tin tn c' S' H' → Dt S' v x → D.rt v H'
def ExN (tn : Addr) (t : TS) (δ : List Sl) (c : Nat) (P : Out → Prop) (c' : Nat) : Prop := ∀ (B S H : Hp) (σ : St) (D : Ends), Fr B S H σ δ → δ[0]? = some (.t tn) → B tn ≠ none → Tin tn c S H → (∀ o, P o → AftN tn c' B S H D o) → t D σ H
theorem AftN.from {tn : Addr} {c' : Nat} {B S H S1 H1 : Hp} {D : Ends} {o : Out} (a : AftN tn c' B S H D o) (x : XB (MT tn) B S H S1 H1) : AftN tn c' B S1 H1 D o := by
  cases o with
  | nx δ' => exact fun S' H' σ' x' f' t' => a S' H' σ' (x.trans x') f' t'
  | rt y => exact fun v S' H' x' t' d' => a v S' H' (x.trans x') t' d'
section
variable {tn : Addr} {δ : List Sl} {c c1 c2 : Nat} {K : PySem.W.Frag}
theorem exn_pure {t : TS} {o : Out} (h : Ex t δ o) : ExN tn t δ c (fun y => y = o) c := fun B S H σ D f h0 hB tt a => h B S H σ D f (by
  have a' := a o rfl
  cases o with
  | nx δ' => exact fun S' H' σ' x' f' => a' S' H' σ' (x'.low (fun _ z => z) fun _ z => z.elim) f' (tt.ext x' hB)
  | rt y => exact fun v S' H' x' d' => a' v S' H' (x'.low (fun _ z => z) fun _ z => z.elim) (tt.ext x' hB) d')
theorem exn_to {t : TS} {P P' : Out → Prop} (h : ExN tn t δ c P c1) (hp : ∀ x, P x → P' x) (hc : c1 ≤ c2 := by exact Nat.le_refl _) : ExN tn t δ c P' c2 := fun B S H σ D f h0 hB tt a => h B S H σ D f h0 hB tt fun o p => by
  have a' := a o (hp o p)
  cases o with
  | nx δ' => exact fun S' H' σ' x' f' t' => a' S' H' σ' x' f' (t'.le hc)
  | rt y => exact fun v S' H' x' t' d' => a' v S' H' x' (t'.le hc) d'
theorem exn_seq {t u : TS} {P1 : List Sl → Prop} {P : Out → Prop} (h1 : ExN tn t δ c (fun o => ∃ δ', o = .nx δ' ∧ δ'[0]? = some (.t tn) ∧ P1 δ') c1) (h2 : ∀ δ', δ'[0]? = some (.t tn) → P1 δ' → ExN tn u δ' c1 P c2) : ExN tn (tSeq t u) δ c P c2 := fun B S H σ D f h0 hB tt a =>
  h1 B S H σ { D with nx := u D } f h0 hB tt fun o ⟨δ', e, g0, p⟩ => by
    subst e
    exact fun S1 H1 σ1 x1 f1 t1 => h2 δ' g0 p B S1 H1 σ1 D f1 g0 hB t1 fun o po => (a o po).from x1
/-- a pure statement first -/
theorem exn_seqP {t u : TS} {δ1 : List Sl} {P : Out → Prop} (h1 : Ex t δ (.nx δ1)) (g : δ1[0]? = some (.t tn)) (h2 : ExN tn u δ1 c P c2) : ExN tn (tSeq t u) δ c P c2 :=
  exn_seq (P1 := fun δ' => δ' = δ1) (exn_to (exn_pure h1) fun o e => ⟨δ1, e, g, rfl⟩) fun δ' _ e => by subst e; exact h2
theorem exn_asg {te : TE} {g : TG} {P : PyData → Prop} {F : List Sl → Prop} (h : EvN tn te δ c P c1) (hg : ∀ x, P x → ∃ vs δ', EvG g δ x vs δ' ∧ δ'[0]? = some (.t tn) ∧ F δ') : ExN tn (tAsg te g) δ c (fun o => ∃ δ', o = .nx δ' ∧ δ'[0]? = some (.t tn) ∧ F δ') c1 := fun B S H σ D f h0 hB tt a =>
  h B S H σ _ f h0 tt fun v S1 H1 x p x1 t1 d1 => by
    obtain ⟨vs, δ', hg, g0, F'⟩ := hg x p
    exact hg B S1 H1 σ v _ (f.extT h0 x1) d1 fun σ' f' _ _ => a _ ⟨δ', rfl, g0, F'⟩ S1 H1 σ' (x1.low f.dB fun _ z => z) f' t1
theorem exn_ret {te : TE} {P : PyData → Prop} (h : EvN tn te δ c P c1) : ExN tn (tRet te) δ c (fun o => ∃ x, o = .rt x ∧ P x) c1 := fun B S H σ D f h0 hB tt a =>
  h B S H σ _ f h0 tt fun v S1 H1 x p x1 t1 d1 => a _ ⟨x, rfl, p⟩ v S1 H1 (x1.low f.dB fun _ z => z) t1 d1
theorem exn_for {wi : TI} {g : TG} {tb : TS} {ds : List PyData} (k : Nat) (F : Nat → List Sl → Prop) (hi : EvI wi δ ds) (hF : F 0 δ) (hF0 : ∀ i δ', F i δ' → δ'[0]? = some (.t tn))
    (hs : ∀ (i : Nat) (d : PyData) (δi : List Sl), F i δi → ds[i]? = some d → ∃ vs δ', EvG g δi d vs δ' ∧ δ'[0]? = some (.t tn) ∧ ExN tn tb δ' (c + i * k) (fun o => ∃ δ'', o = .nx δ'' ∧ F (i + 1) δ'') (c + (i + 1) * k)) :
    ExN tn (tFor wi g tb) δ c (fun o => ∃ δ', o = .nx δ' ∧ δ'[0]? = some (.t tn) ∧ F ds.length δ') (c + ds.length * k) := fun B S H σ D fr h0 hB tt a => hi B S H σ _ fr fun J S1 H1 x1 ok => by
  have t1 : Tin tn c S1 H1 := tt.ext x1 tt.ne
  refine ⟨fun i m σ2 H2 => m = ds.length - i ∧ i ≤ ds.length ∧ ∃ S2 δ2, XB (MT tn) B S1 H1 S2 H2 ∧ Fr B S2 H2 σ2 δ2 ∧ F i δ2 ∧ Tin tn (c + i * k) S2 H2, ⟨ds.length, by simp, Nat.zero_le _, S1, δ, XB.refl x1.sub, fr.ext x1, hF, by rw [Nat.zero_mul, Nat.add_zero]; exact t1⟩, ?_⟩
  rintro i m σ2 H2 ⟨rfl, hle, S2, δ2, x2, f2, F2, t2⟩
  have eH : Same S1 H2 := x2.st.trans x2.sub
  by_cases hlt : i < ds.length
  · refine .inr ⟨ok.go i H2 eH hlt, fun σ' H' => i + 1 ≤ ds.length ∧ ∃ S2 δ2, XB (MT tn) B S1 H1 S2 H' ∧ Fr B S2 H' σ' δ2 ∧ F (i + 1) δ2 ∧ Tin tn (c + (i + 1) * k) S2 H', fun σ' H' h => ⟨ds.length - (i + 1), by omega, rfl, h⟩, fun x H' y => ?_⟩
    obtain ⟨S3, d, x3, hd, dd⟩ := ok.yld i H2 x H' S2 x2.st x2.sub hlt y
    obtain ⟨vs, δ', hg, g0, hb⟩ := hs i d δ2 F2 hd
    have x23 : XB (MT tn) B S1 H1 S3 H' := x2.trans (x3.low f2.dB)
    exact hg B S3 H' σ2 x _ (f2.ext x3) dd fun σ' f4 _ _ => hb B S3 H' σ' _ f4 g0 hB (t2.ext x3 t2.ne) fun o ⟨δ'', e, F'⟩ => by
      subst e
      exact fun S5 H5 σ5 x5 f5 t5 => ⟨hlt, S5, δ'', x23.trans x5, f5, F', t5⟩
  · have e : i = ds.length := by omega
    subst e
    exact .inl ⟨ok.stop H2 eH, a _ ⟨δ2, rfl, hF0 _ _ F2, F2⟩ S2 H2 σ2 ((x1.low fr.dB).trans x2) f2 t2⟩
end
/-! ### defs that draw -/
def stT (N : List Str) (tn : Addr) (ds : List PyData) : List Sl := .t tn :: (ds.map Sl.d ++ List.replicate (N.length - (ds.length + 1)) .u)
theorem Fr.startT {N : List Str} {S H : Hp} {tn : Addr} {c : Nat} {vs : List V} {ds : List PyData} (e : Same S H) (t : Tin tn c S H) (cc : DtAll S vs ds) : Fr H S H (L2.start N (.ref tn :: vs)) (stT N tn ds) := by
  have only : ∀ (i : Nat) (s : Sl), (stT N tn ds)[i]? = some s → (i = 0 ∧ s = .t tn) ∨ (Mu s = false ∧ (s = .u ∨ ∃ x v, s = .d x ∧ (L2.start N (.ref tn :: vs))[i]? = some (some v) ∧ Dt S v x)) := fun i s h => by
    cases i with
    | zero => cases h; exact .inl ⟨rfl, rfl⟩
    | succ i =>
      have h : (ds.map Sl.d ++ List.replicate (N.length - (ds.length + 1)) Sl.u)[i]? = some s := h
      by_cases hi : i < ds.length
      · rw [List.getElem?_append_left (by rw [List.length_map]; exact hi), List.getElem?_map] at h
        cases z : ds[i]? with
        | none => rw [z] at h; cases h
        | some d =>
          rw [z] at h
          cases h
          obtain ⟨v, hv, dv⟩ := cc.get z
          refine .inr ⟨rfl, .inr ⟨d, v, rfl, ?_, dv⟩⟩
          show ((vs.map some) ++ List.replicate _ none)[i]? = _
          rw [List.getElem?_append_left (by rw [List.length_map, cc.length]; exact hi), List.getElem?_map, hv]
          rfl
      · rw [List.getElem?_append_right (by rw [List.length_map]; exact Nat.le_of_not_lt hi), List.getElem?_replicate] at h
        split at h
        · cases h; exact .inr ⟨rfl, .inl rfl⟩
        · cases h
  refine ⟨?_, e, fun _ h => h, fun i s h => ?_, fun i s p h o => ?_, fun i j s s' p h h' m m' q q' => ?_⟩
  · unfold L2.start stT
    rw [List.length_append, List.length_map, List.length_replicate, List.length_cons, List.length_cons, List.length_append, List.length_map, List.length_replicate, cc.length]
    omega
  · rcases only i s h with ⟨rfl, rfl⟩ | ⟨_, z | ⟨x, v, rfl, a, b⟩⟩
    · exact .inr ⟨.ref tn, rfl, rfl, t.st, t.ne⟩
    · exact .inl z
    · exact .inr ⟨v, a, b⟩
  · rcases only i s h with ⟨rfl, rfl⟩ | ⟨z, _⟩
    · cases o
    · rw [Ow.mu o] at z; cases z
  · rcases only i s h with ⟨rfl, rfl⟩ | ⟨z, _⟩
    · rcases only j s' h' with ⟨rfl, rfl⟩ | ⟨z, _⟩
      · rfl
      · rw [m'] at z; cases z
    · rw [m] at z; cases z
section
variable {P : Program} {w : World} {K : PySem.W.Frag} {mg : Str → Option Value} {base : Heap}
theorem def_okT {x : Str} {ps N : List Str} {st : Stmt} {k : Nat} {R : List PyData → (PyData → Prop) → Nat → Prop} (F : Def K mg x ps st) (sc : FnScope N ps (defScope st)) (hl : ∀ ds P k, R ds P k → ds.length + 1 = ps.length)
    (hb : ∀ (f : Addr) (cdv : Value) (A : Around) (outer : List Env) (s : Shared) (H : Hp) (E : XK) (tn : Addr) (c : Nat) (ds : List PyData) (P0 : PyData → Prop) (m : Nat), Room k (A.deeper (PyProof.Rows.envOfC x (defScope st) s.heap.objs.size f cdv)) → c + m ≤ 2000 → R ds P0 m →
      ∃ t, PSs (cxOf CX0 P w K mg base N x (defScope st) f cdv A outer s H E).nox (defBody st) t ∧ ExN tn t (stT N tn ds) c (fun o => ∃ y, o = .rt y ∧ P0 y) (c + m)) : Cal P w K mg base x ps (k + 1) (spT R) := by
  obtain ⟨f, fd, F0, hm, hbd⟩ := F.ex
  refine ⟨f, fd, F0.ok sc (fun vs H Q E h => ?_) (fun cdv A outer s H vs Q E hr h => ?_), hm, F0.kp, hbd⟩
  · obtain ⟨S, tn, c, ws, ds, P0, m, rfl, _, _, _, cc, hR, _⟩ := h
    rw [List.length_cons, cc.length]
    exact hl ds P0 m hR
  · obtain ⟨S, tn, c, ws, ds, P0, m, rfl, e, t, hc, cc, hR, q⟩ := h
    obtain ⟨tt, h1, h2⟩ := hb f cdv A outer s H E tn c ds P0 m hr hc hR
    exact ⟨tt, h1, h2 H S H _ _ (Fr.startT e t cc) rfl t.ne t fun o ⟨y, eo, py⟩ => by
      subst eo
      exact fun v S' H' x' t' d' => q v S' H' y py x' t' d'⟩
end
end L3
/-! M1: walkers and rings as plain values and as data. -/
namespace L3
open PySem
/-- a walker -/
structure Wk where
  steps : List (List (Nat × Int))
  says : List (Option Int)
structure WOk (w : Wk) (wide : Nat) : Prop where
  pos : 0 < w.steps.length
  len : w.says.length = w.steps.length
  wid : ∀ row ∈ w.steps, row.length = wide
  sta : ∀ row ∈ w.steps, ∀ m ∈ row, m.1 < w.steps.length
  way : ∀ row ∈ w.steps, ∀ m ∈ row, -1 ≤ m.2 ∧ m.2 ≤ 1
  few : w.steps.length ≤ 1000
  w1 : 1 ≤ wide
  w3 : wide ≤ 3
structure ROk (r : List Nat) (wide : Nat) : Prop where
  pos : 0 < r.length
  let_ : ∀ l ∈ r, 1 ≤ l ∧ l ≤ wide
  few : r.length ≤ 1000
def moveD (k : Bool) (m : Nat × Int) : PyData := sq k [.int (m.1 : Int), .int m.2]
def rowD (k : Bool) (row : List (Nat × Int)) : PyData := sq k (row.map (moveD k))
def sayD : Option Int → PyData
  | none => .none
  | some i => .int i
def stepsD (k : Bool) (w : Wk) : PyData := sq k (w.steps.map (rowD k))
def saysD (k : Bool) (w : Wk) : PyData := sq k (w.says.map sayD)
def walkD (k : Bool) (w : Wk) : PyData := sq k [stepsD k w, saysD k w]
def ringD (k : Bool) (r : List Nat) : PyData := sq k (r.map fun (l : Nat) => PyData.int (l : Int))
/-- a room and a STATE -/
abbrev posD (p : Nat × Nat) : PyData := .tuple [.int (p.1 : Int), .int (p.2 : Int)]
def row (w : Wk) (s : Nat) : List (Nat × Int) := w.steps.getD s []
def mv (w : Wk) (s l : Nat) : Nat × Int := (row w s).getD (l - 1) (0, 0)
def lt_ (r : List Nat) (i : Nat) : Nat := r.getD i 0
def nxt (w : Wk) (r : List Nat) (p : Nat × Nat) : Nat × Nat := ((((p.1 : Int) + (mv w p.2 (lt_ r p.1)).2) % (r.length : Int)).toNat, (mv w p.2 (lt_ r p.1)).1)
/-- the place p is one of a room and a STATE -/
def POk (w : Wk) (r : List Nat) (p : Nat × Nat) : Prop := p.1 < r.length ∧ p.2 < w.steps.length
section
variable {w : Wk} {wide : Nat} {r : List Nat} {p : Nat × Nat} {k k' : Bool}
theorem getW0 : getD (walkD k w) 0 = some (stepsD k w) := by cases k <;> rfl
theorem getW1 : getD (walkD k w) 1 = some (saysD k w) := by cases k <;> rfl
theorem row_mem {s : Nat} (h : s < w.steps.length) : row w s ∈ w.steps := by
  unfold row
  rw [List.getD_eq_getElem?_getD, List.getElem?_eq_getElem h]
  exact List.getElem_mem _
theorem getRow {s : Nat} (h : s < w.steps.length) : getD (stepsD k w) (s : Int) = some (rowD k (row w s)) := by
  refine getD_nat ?_
  rw [List.getElem?_map, List.getElem?_eq_getElem h]
  unfold row
  rw [List.getD_eq_getElem?_getD, List.getElem?_eq_getElem h]
  rfl
theorem getSay {s : Nat} (h : s < w.says.length) : getD (saysD k w) (s : Int) = some (sayD (w.says.getD s none)) := by
  refine getD_nat ?_
  rw [List.getElem?_map, List.getElem?_eq_getElem h, List.getD_eq_getElem?_getD, List.getElem?_eq_getElem h]
  rfl
theorem getLet {i : Nat} (h : i < r.length) : getD (ringD k r) (i : Int) = some (.int (lt_ r i : Nat)) := by
  refine getD_nat ?_
  rw [List.getElem?_map, List.getElem?_eq_getElem h]
  unfold lt_
  rw [List.getD_eq_getElem?_getD, List.getElem?_eq_getElem h]
  rfl
theorem let_ok (R : ROk r wide) {i : Nat} (h : i < r.length) : 1 ≤ lt_ r i ∧ lt_ r i ≤ wide := by
  refine R.let_ _ ?_
  unfold lt_
  rw [List.getD_eq_getElem?_getD, List.getElem?_eq_getElem h]
  exact List.getElem_mem _
theorem mv_mem (W : WOk w wide) {s l : Nat} (hs : s < w.steps.length) (h1 : 1 ≤ l) (h2 : l ≤ wide) : mv w s l ∈ row w s := by
  have hw := W.wid _ (row_mem hs)
  have hl : l - 1 < (row w s).length := by omega
  unfold mv
  rw [List.getD_eq_getElem?_getD, List.getElem?_eq_getElem hl]
  exact List.getElem_mem _
theorem getMove (W : WOk w wide) {s l : Nat} (hs : s < w.steps.length) (h1 : 1 ≤ l) (h2 : l ≤ wide) : getD (rowD k (row w s)) ((l : Int) - 1) = some (moveD k (mv w s l)) := by
  have hw := W.wid _ (row_mem hs)
  have hl : l - 1 < (row w s).length := by omega
  have e : ((l : Int) - 1) = ((l - 1 : Nat) : Int) := by omega
  rw [e]
  refine getD_nat ?_
  unfold mv
  rw [List.getElem?_map, List.getElem?_eq_getElem hl, List.getD_eq_getElem?_getD, List.getElem?_eq_getElem hl]
  rfl
theorem itMove {m : Nat × Int} : itemsD (moveD k m) = some [.int (m.1 : Int), .int m.2] := sq_items _ _
theorem itRing : itemsD (ringD k r) = some (r.map fun (l : Nat) => PyData.int (l : Int)) := sq_items _ _
theorem nxt_ok (W : WOk w wide) (R : ROk r wide) (h : POk w r p) : POk w r (nxt w r p) := by
  obtain ⟨a, b⟩ := let_ok R h.1
  refine ⟨?_, W.sta _ (row_mem h.2) _ (mv_mem W h.2 a b)⟩
  have hp := R.pos
  show (((p.1 : Int) + (mv w p.2 (lt_ r p.1)).2) % (r.length : Int)).toNat < r.length
  have h1 := Int.emod_nonneg ((p.1 : Int) + (mv w p.2 (lt_ r p.1)).2) (b := (r.length : Int)) (by omega)
  have h2 := Int.emod_lt_of_pos ((p.1 : Int) + (mv w p.2 (lt_ r p.1)).2) (b := (r.length : Int)) (by omega)
  omega
theorem nxt_int (R : ROk r wide) : (((p.1 : Int) + (mv w p.2 (lt_ r p.1)).2) % (r.length : Int)) = ((nxt w r p).1 : Int) := by
  have hp := R.pos
  have h1 := Int.emod_nonneg ((p.1 : Int) + (mv w p.2 (lt_ r p.1)).2) (b := (r.length : Int)) (by omega)
  show _ = (((((p.1 : Int) + (mv w p.2 (lt_ r p.1)).2) % (r.length : Int)).toNat : Nat) : Int)
  omega
end
end L3
/-! M2: the walk as a sequence; its first place that comes again. -/
namespace L3
open PySem
section
variable (w : Wk) (r : List Nat) (room : Nat)
def pos : Nat → Nat × Nat
  | 0 => (room, 0)
  | n + 1 => nxt w r (pos n)
def saidAt : Nat → Option Int
  | 0 => none
  | n + 1 => (w.says.getD (pos w r room (n + 1)).2 none).or (saidAt n)
abbrev triD (p : Nat × Nat) (s : Option Int) : PyData := .tuple [.int (p.1 : Int), .int (p.2 : Int), sayD s]
def triAt (i : Nat) : PyData := triD (pos w r room i) (saidAt w r room i)
/-- the triples behind 1, 2, .. n steps -/
def rowsD (n : Nat) : List PyData := (List.range n).map fun i => triAt w r room (i + 1)
structure Cyc (L f : Nat) : Prop where
  lt : f < L
  eq : pos w r room L = pos w r room f
  inj : ∀ i j, i < L → j < L → pos w r room i = pos w r room j → i = j
end
section
variable {w : Wk} {wide : Nat} {r : List Nat} {room : Nat}
theorem pos_ok (W : WOk w wide) (R : ROk r wide) (h : room < r.length) : ∀ n, POk w r (pos w r room n)
  | 0 => ⟨h, W.pos⟩
  | n + 1 => nxt_ok W R (pos_ok W R h n)
theorem rowsD_length (n : Nat) : (rowsD w r room n).length = n := by unfold rowsD; rw [List.length_map, List.length_range]
theorem rowsD_succ (n : Nat) : rowsD w r room (n + 1) = rowsD w r room n ++ [triAt w r room (n + 1)] := by
  unfold rowsD
  rw [List.range_succ, List.map_append]
  rfl
theorem rowsD_get {n i : Nat} (h : i < n) : (rowsD w r room n)[i]? = some (triAt w r room (i + 1)) := by
  unfold rowsD
  rw [List.getElem?_map, List.getElem?_range h]
  rfl
theorem rowsD_take {n m : Nat} (h : n ≤ m) : (rowsD w r room m).take n = rowsD w r room n := by
  unfold rowsD
  rw [← List.map_take, List.take_range, Nat.min_eq_left h]
/-! ### a hole too few -/
theorem pigeon : ∀ (m : Nat) (f : Nat → Nat), (∀ i, i ≤ m → f i < m) → ∃ i j, i < j ∧ j ≤ m ∧ f i = f j
  | 0, f, h => absurd (h 0 (Nat.le_refl _)) (Nat.not_lt_zero _)
  | m + 1, f, h => by
    by_cases q : ∃ i, i ≤ m ∧ f i = f (m + 1)
    · obtain ⟨i, hi, e⟩ := q
      exact ⟨i, m + 1, by omega, Nat.le_refl _, e⟩
    · have hv := h (m + 1) (Nat.le_refl _)
      have ne : ∀ i, i ≤ m → f i ≠ f (m + 1) := fun i hi e => q ⟨i, hi, e⟩
      obtain ⟨i, j, h1, h2, h3⟩ := pigeon m (fun i => if f (m + 1) < f i then f i - 1 else f i) fun i hi => by
        have := h i (by omega)
        have := ne i hi
        show (if f (m + 1) < f i then f i - 1 else f i) < m
        split <;> omega
      refine ⟨i, j, h1, by omega, ?_⟩
      have n1 := ne i (by omega)
      have n2 := ne j h2
      have h3' : (if f (m + 1) < f i then f i - 1 else f i) = (if f (m + 1) < f j then f j - 1 else f j) := h3
      split at h3' <;> split at h3' <;> omega
theorem least {p : Nat → Prop} : ∀ (n : Nat), p n → ∃ m, m ≤ n ∧ p m ∧ ∀ k, k < m → ¬ p k := fun n => by
  induction n using Nat.strongRecOn with
  | ind n ih =>
    intro h
    by_cases q : ∃ k, k < n ∧ p k
    · obtain ⟨k, hk, pk⟩ := q
      obtain ⟨m, a, b, c⟩ := ih k hk pk
      exact ⟨m, by omega, b, c⟩
    · exact ⟨n, Nat.le_refl _, h, fun k hk pk => q ⟨k, hk, pk⟩⟩
theorem code_inj {S a b c d : Nat} (hb : b < S) (hd : d < S) (h : a * S + b = c * S + d) : a = c ∧ b = d := by
  have e1 : (a * S + b) / S = a := by rw [Nat.mul_comm, Nat.mul_add_div (by omega), Nat.div_eq_of_lt hb]; rfl
  have e2 : (c * S + d) / S = c := by rw [Nat.mul_comm, Nat.mul_add_div (by omega), Nat.div_eq_of_lt hd]; rfl
  have e : a = c := by rw [← e1, h, e2]
  subst e
  exact ⟨rfl, by omega⟩
theorem cyc_of (W : WOk w wide) (R : ROk r wide) (h : room < r.length) : ∃ L f, Cyc w r room L f ∧ L ≤ r.length * w.steps.length := by
  have bound : ∀ i, (pos w r room i).1 * w.steps.length + (pos w r room i).2 < r.length * w.steps.length := fun i => by
    obtain ⟨a, b⟩ := pos_ok W R h i
    have h1 : ((pos w r room i).1 + 1) * w.steps.length ≤ r.length * w.steps.length := Nat.mul_le_mul_right _ a
    rw [Nat.add_mul, Nat.one_mul] at h1
    omega
  obtain ⟨i, j, h1, h2, h3⟩ := pigeon (r.length * w.steps.length) (fun i => (pos w r room i).1 * w.steps.length + (pos w r room i).2) fun i _ => bound i
  have e : pos w r room i = pos w r room j := by
    obtain ⟨a, b⟩ := code_inj (pos_ok W R h i).2 (pos_ok W R h j).2 h3
    exact Prod.ext a b
  obtain ⟨L, hL, ⟨f, hf, ef⟩, hmin⟩ := least (p := fun L => ∃ f, f < L ∧ pos w r room L = pos w r room f) j ⟨i, h1, e.symm⟩
  refine ⟨L, f, ⟨hf, ef, fun a b ha hb eab => ?_⟩, by omega⟩
  rcases Nat.lt_trichotomy a b with z | z | z
  · exact absurd ⟨a, z, eab.symm⟩ (hmin b hb)
  · exact z
  · exact absurd ⟨b, z, eab⟩ (hmin a ha)
theorem cyc_uniq {L f L' f' : Nat} (a : Cyc w r room L f) (b : Cyc w r room L' f') : L = L' ∧ f = f' := by
  have e : L = L' := by
    rcases Nat.lt_trichotomy L L' with z | z | z
    · exact absurd (b.inj L f z (Nat.lt_trans a.lt z) a.eq) (by have := a.lt; omega)
    · exact z
    · exact absurd (a.inj L' f' z (Nat.lt_trans b.lt z) b.eq) (by have := b.lt; omega)
  subst e
  exact ⟨rfl, a.inj f f' a.lt b.lt (a.eq.symm.trans b.eq)⟩
/-! ### the dict of places -/
def keyAt (w : Wk) (r : List Nat) (room i : Nat) : List Int := [((pos w r room i).1 : Int), ((pos w r room i).2 : Int)]
def numD (w : Wk) (r : List Nat) (room n : Nat) : List (List Int × Int) := (List.range n).map fun j => (keyAt w r room j, (j : Int))
theorem keyAt_inj {i j : Nat} (h : keyAt w r room i = keyAt w r room j) : pos w r room i = pos w r room j := by
  unfold keyAt at h
  injection h with h1 h2
  injection h2 with h2 _
  exact Prod.ext (by omega) (by omega)
theorem numD_succ (n : Nat) : numD w r room (n + 1) = numD w r room n ++ [(keyAt w r room n, (n : Int))] := by
  unfold numD
  rw [List.range_succ, List.map_append]
  rfl
theorem valD_app (xs : List (List Int × Int)) (k k' : List Int) (z : Int) : valD (xs ++ [(k', z)]) k = (valD xs k).or (if k' = k then some z else none) := by
  unfold valD
  rw [List.find?_append]
  cases e : xs.find? fun kv => decide (kv.1 = k) with
  | some p => rfl
  | none =>
    by_cases h : k' = k
    · simp [h]
    · simp [h]
theorem valD_none {k : List Int} : ∀ {n : Nat}, (∀ j, j < n → keyAt w r room j ≠ k) → valD (numD w r room n) k = none
  | 0, _ => rfl
  | n + 1, h => by
    rw [numD_succ, valD_app, valD_none fun j hj => h j (by omega), if_neg (h n (by omega))]
    rfl
theorem valD_some {k : List Int} {f : Nat} : ∀ {n : Nat}, f < n → keyAt w r room f = k → (∀ j, j < n → keyAt w r room j = k → j = f) → valD (numD w r room n) k = some (f : Int)
  | 0, h, _, _ => absurd h (Nat.not_lt_zero _)
  | n + 1, h, e, u => by
    rw [numD_succ, valD_app]
    by_cases q : f = n
    · subst q
      rw [valD_none fun j hj z => by have := u j (by omega) z; omega, if_pos e]
      rfl
    · rw [valD_some (n := n) (by omega) e fun j hj z => u j (by omega) z]
      rfl
theorem numD_length (n : Nat) : (numD w r room n).length = n := by unfold numD; rw [List.length_map, List.length_range]
theorem Cyc.fresh {L f n : Nat} (c : Cyc w r room L f) (h : n < L) : valD (numD w r room n) (keyAt w r room n) = none :=
  valD_none fun j hj e => by have := c.inj j n (by omega) h (keyAt_inj e); omega
theorem Cyc.again {L f : Nat} (c : Cyc w r room L f) : valD (numD w r room L) (keyAt w r room L) = some (f : Int) :=
  valD_some c.lt (by unfold keyAt; rw [c.eq]) fun j hj e => c.inj j f hj c.lt ((keyAt_inj e).trans c.eq)
/-- the places behind 0, 1, .. n - 1 steps -/
def placesD (w : Wk) (r : List Nat) (room n : Nat) : List PyData := (List.range n).map fun j => posD (pos w r room j)
theorem placesD_succ (n : Nat) : placesD w r room (n + 1) = placesD w r room n ++ [posD (pos w r room n)] := by
  unfold placesD
  rw [List.range_succ, List.map_append]
  rfl
theorem placesD_length (n : Nat) : (placesD w r room n).length = n := by unfold placesD; rw [List.length_map, List.length_range]
theorem atI_end {xs : List PyData} {x : PyData} : L2.atI (xs ++ [x]) (-1) = some x := by
  have h : L2.atI ((xs ++ [x])) (-1) = (xs ++ [x])[xs.length]? := by
    unfold L2.atI L2.ixN
    rw [if_neg (by omega), List.length_append, List.length_singleton, if_pos (by omega)]
    show (xs ++ [x])[((-1 : Int) + ((xs.length + 1 : Nat) : Int)).toNat]? = _
    rw [show ((-1 : Int) + ((xs.length + 1 : Nat) : Int)).toNat = xs.length by omega]
  rw [h, List.getElem?_append_right (Nat.le_refl _), Nat.sub_self]
  rfl
/-! ### how far one need go -/
def near (L f n : Nat) : Nat := if n < 2 * L - f then n else 2 * L - f + (n - (2 * L - f)) % (L - f)
theorem near_lt {L f n : Nat} (h : f < L) : near L f n < 3 * L := by
  unfold near
  split
  · omega
  · have := Nat.mod_lt (n - (2 * L - f)) (show 0 < L - f by omega)
    omega
/-! ### data that may be compared -/
def okD (n : Nat) (x : PyData) : Prop := x.canLay0 = true ∧ x.depth ≤ n
theorem lay_all : ∀ {xs : List PyData}, (∀ x ∈ xs, x.canLay0 = true) → PyData.canLayAll0 xs = true
  | [], _ => rfl
  | x :: xs, h => by
    rw [PyData.canLayAll0, h x List.mem_cons_self, lay_all fun y hy => h y (List.mem_cons_of_mem _ hy)]
    rfl
theorem depth_all {n : Nat} : ∀ {xs : List PyData}, (∀ x ∈ xs, x.depth ≤ n) → PyData.depthAll xs ≤ n
  | [], _ => by rw [PyData.depthAll]; exact Nat.zero_le _
  | x :: xs, h => by
    rw [PyData.depthAll]
    have h1 := h x List.mem_cons_self
    have h2 := depth_all fun y hy => h y (List.mem_cons_of_mem _ hy)
    omega
theorem okD_list {n : Nat} {xs : List PyData} (h : ∀ x ∈ xs, okD n x) : okD (n + 1) (.list xs) :=
  ⟨by rw [PyData.canLay0]; exact lay_all fun x hx => (h x hx).1, by rw [PyData.depth]; exact Nat.succ_le_succ (depth_all fun x hx => (h x hx).2)⟩
theorem okD_tuple {n : Nat} {xs : List PyData} (h : ∀ x ∈ xs, okD n x) : okD (n + 1) (.tuple xs) :=
  ⟨by rw [PyData.canLay0]; exact lay_all fun x hx => (h x hx).1, by rw [PyData.depth]; exact Nat.succ_le_succ (depth_all fun x hx => (h x hx).2)⟩
theorem okD_sq {n : Nat} {xs : List PyData} {k : Bool} (h : ∀ x ∈ xs, okD n x) : okD (n + 1) (sq k xs) := by
  cases k with
  | true => exact okD_list h
  | false => exact okD_tuple h
theorem okD_int {i : Int} : okD 0 (.int i) := ⟨rfl, Nat.le_refl _⟩
theorem okD_say {o : Option Int} : okD 0 (sayD o) := by cases o <;> exact ⟨rfl, Nat.le_refl _⟩
theorem okD.le {m n : Nat} {x : PyData} (h : okD m x) (e : m ≤ n) : okD n x := ⟨h.1, Nat.le_trans h.2 e⟩
theorem okD.shaped {n : Nat} {x : PyData} (h : okD n x) (e : n ≤ 64) : SeqAt.shaped x = true := by
  unfold SeqAt.shaped
  rw [h.1, decide_eq_true (Nat.le_trans h.2 e)]
  rfl
theorem okD.refl {n : Nat} {x : PyData} (h : okD n x) : PyData.eqv x x = true := SeqAt.eqv_refl x h.1
/-! ### what is said -/
def saidsD (w : Wk) (r : List Nat) (room n : Nat) : List PyData := (List.range n).map fun i => sayD (saidAt w r room (i + 1))
theorem saidsD_length (n : Nat) : (saidsD w r room n).length = n := by unfold saidsD; rw [List.length_map, List.length_range]
theorem saidsD_succ (n : Nat) : saidsD w r room (n + 1) = saidsD w r room n ++ [sayD (saidAt w r room (n + 1))] := by
  unfold saidsD
  rw [List.range_succ, List.map_append]
  rfl
theorem saidsD_get {n i : Nat} (h : i < n) : (saidsD w r room n)[i]? = some (sayD (saidAt w r room (i + 1))) := by
  unfold saidsD
  rw [List.getElem?_map, List.getElem?_range h]
  rfl
theorem saidsD_ok {n : Nat} : okD 1 (.list (saidsD w r room n)) := okD_list fun x hx => by
  unfold saidsD at hx
  obtain ⟨i, _, rfl⟩ := List.mem_map.mp hx
  exact okD_say
theorem third {n i : Nat} {d e : PyData} (hd : (rowsD w r room n)[i]? = some d) (he : (saidsD w r room n)[i]? = some e) : getD d 2 = some e := by
  have hi : i < n := by
    have h1 := (List.getElem?_eq_some_iff.mp hd).1
    rw [rowsD_length] at h1
    exact h1
  rw [rowsD_get hi] at hd
  rw [saidsD_get hi] at he
  cases hd
  cases he
  rfl
theorem line_of {n : Nat} (h : n ≤ 4000000) : n ≤ sizeLine := by rw [sizeLine_eq]; omega
end
end L3
/-! M3: words. -/
namespace L3
open PySem
def prevAt (s : Nat → Option Int) (n : Nat) : Option Int := if n > 0 then s (n - 1) else none
/-- the words of s 0, s 1, .. (n of them) -/
def wordsF (s : Nat → Option Int) : Nat → List (Option Int)
  | 0 => []
  | n + 1 => if s n = prevAt s n then wordsF s n else wordsF s n ++ [s n]
/-- the places at which another one stands than ahead -/
def chgF (s : Nat → Option Int) : Nat → List Nat
  | 0 => []
  | n + 1 => if s n = prevAt s n then chgF s n else chgF s n ++ [n]
theorem words_chg (s : Nat → Option Int) : ∀ n, wordsF s n = (chgF s n).map s
  | 0 => rfl
  | n + 1 => by
    unfold wordsF chgF
    split
    · exact words_chg s n
    · rw [words_chg s n, List.map_append]
      rfl
theorem chg_lt (s : Nat → Option Int) : ∀ n, ∀ i ∈ chgF s n, i < n
  | 0, i, h => by cases h
  | n + 1, i, h => by
    unfold chgF at h
    split at h
    · have := chg_lt s n i h; omega
    · rcases List.mem_append.mp h with z | z
      · have := chg_lt s n i z; omega
      · have : i = n := by simpa using z
        omega
theorem chg_length (s : Nat → Option Int) : ∀ n, (chgF s n).length ≤ n
  | 0 => Nat.le_refl _
  | n + 1 => by
    have h := chg_length s n
    unfold chgF
    split
    · omega
    · rw [List.length_append, List.length_singleton]; omega
/-- what a comprehension with a test gives -/
theorem chg_keep (s : Nat → Option Int) : ∀ n, ((List.range n).map fun (i : Nat) => if s i = prevAt s i then (none : Option PyData) else some (.int (i : Int))).filterMap id = (chgF s n).map fun (i : Nat) => PyData.int (i : Int)
  | 0 => rfl
  | n + 1 => by
    rw [List.range_succ, List.map_append, List.filterMap_append, chg_keep s n]
    show _ = (if s n = prevAt s n then chgF s n else chgF s n ++ [n]).map _
    by_cases h : s n = prevAt s n
    · simp [h]
    · simp [h]
theorem eqv_say : ∀ (a b : Option Int), PyData.eqv (sayD a) (sayD b) = decide (a = b)
  | none, none => rfl
  | none, some i => rfl
  | some i, none => rfl
  | some i, some j => by
    show (i == j) = _
    by_cases h : i = j
    · subst h; simp
    · simp [h]
theorem eqv_say1 (a b : Option Int) : PyData.eqv (.list [sayD a]) (.list [sayD b]) = decide (a = b) := by
  rw [PyData.eqv, PyData.eqvAll, eqv_say, PyData.eqvAll, Bool.and_true]
/-- where nothing stands nothing stood ahead -/
def Keeps (s : Nat → Option Int) : Prop := ∀ n, s (n + 1) = none → s n = none
theorem Keeps.first {s : Nat → Option Int} (h : Keeps s) : ∀ n, s n = none → wordsF s (n + 1) = []
  | 0, e => by
    show (if s 0 = prevAt s 0 then [] else [] ++ [s 0]) = []
    rw [if_pos (by rw [e]; rfl)]
  | n + 1, e => by
    have e1 := h n e
    show (if s (n + 1) = prevAt s (n + 1) then wordsF s (n + 1) else wordsF s (n + 1) ++ [s (n + 1)]) = []
    rw [if_pos (by rw [e]; exact e1.symm)]
    exact h.first n e1
/-- the last word is what stands -/
theorem words_last {s : Nat → Option Int} : ∀ (n : Nat) (v : Int), s n = some v → ∃ xs, wordsF s (n + 1) = xs ++ [some v]
  | 0, v, e => ⟨[], by
    show (if s 0 = prevAt s 0 then [] else [] ++ [s 0]) = _
    rw [if_neg (by rw [e]; intro z; cases z), e]⟩
  | n + 1, v, e => by
    show ∃ xs, (if s (n + 1) = prevAt s (n + 1) then wordsF s (n + 1) else wordsF s (n + 1) ++ [s (n + 1)]) = _
    by_cases h : s (n + 1) = prevAt s (n + 1)
    · rw [if_pos h]
      refine words_last n v ?_
      rw [e] at h
      exact h.symm
    · rw [if_neg h, e]
      exact ⟨_, rfl⟩
/-- as the law reckons them -/
theorem words_law {s : Nat → Option Int} (h : Keeps s) (n : Nat) : wordsF s (n + 1) = if s n ≠ none ∧ ¬ ((wordsF s n).getLast? = some (s n)) then wordsF s n ++ [s n] else wordsF s n := by
  show (if s n = prevAt s n then wordsF s n else wordsF s n ++ [s n]) = _
  cases e : s n with
  | none =>
    rw [if_neg (show ¬ ((none : Option Int) ≠ none ∧ _) from fun z => z.1 rfl)]
    cases n with
    | zero => rw [if_pos (show none = prevAt s 0 from rfl)]
    | succ n => rw [if_pos (show none = prevAt s (n + 1) from (h n e).symm)]
  | some v =>
    cases n with
    | zero =>
      rw [if_neg (show ¬ (some v = prevAt s 0) from fun z => by cases z), if_pos]
      exact ⟨fun z => (by cases z), fun z => (by cases z)⟩
    | succ n =>
      by_cases q : some v = prevAt s (n + 1)
      · rw [if_pos q]
        obtain ⟨xs, hx⟩ := words_last n v q.symm
        rw [if_neg]
        intro z
        refine z.2 ?_
        rw [hx, List.getLast?_append]
        rfl
      · rw [if_neg q, if_pos]
        refine ⟨fun z => (by cases z), fun z => ?_⟩
        cases e1 : s n with
        | none =>
          rw [h.first n e1] at z
          cases z
        | some u =>
          obtain ⟨xs, hx⟩ := words_last n u e1
          rw [hx, List.getLast?_append] at z
          have : u = v := by
            have z' : some (some u) = some (some v) := z
            cases z'
            rfl
          subst this
          exact q e1.symm
theorem saidAt_keeps {w : Wk} {r : List Nat} {room : Nat} : Keeps fun n => saidAt w r room (n + 1) := fun n h => by
  have h' : (w.says.getD (pos w r room (n + 2)).2 none).or (saidAt w r room (n + 1)) = none := h
  show saidAt w r room (n + 1) = none
  cases e : w.says.getD (pos w r room (n + 2)).2 none with
  | none => rw [e] at h'; exact h'
  | some i => rw [e] at h'; cases h'
theorem cut_last (xs : List PyData) (x : PyData) : cutD (xs ++ [x]) (some (-1)) none = [x] := by
  have e : HT.sIx (xs ++ [x]).length 0 (some (-1)) = xs.length := by
    show (if (-1 : Int) < 0 then ((-1 : Int) + ((xs ++ [x]).length : Int)).toNat else min (-1 : Int).toNat (xs ++ [x]).length) = _
    rw [if_pos (by omega), List.length_append, List.length_singleton]
    omega
  unfold cutD
  rw [e]
  show ((xs ++ [x]).drop xs.length).take ((xs ++ [x]).length - xs.length) = [x]
  rw [List.drop_left, List.length_append, List.length_singleton, show xs.length + 1 - xs.length = 1 by omega]
  rfl
end L3
/-! M4: data of ints, bools, None, lists and tuples, nested at most so deep; lists and tuples exchanged; the mirrored walker. -/
namespace L3
open PySem
def Pl : Nat → PyData → Prop
  | _, .none => True
  | _, .bool _ => True
  | _, .int _ => True
  | n + 1, .list xs => xs.length ≤ 4000000 ∧ ∀ x ∈ xs, Pl n x
  | n + 1, .tuple xs => xs.length ≤ 4000000 ∧ ∀ x ∈ xs, Pl n x
  | _, _ => False
def toT : Nat → PyData → PyData
  | n + 1, .list xs => .tuple (xs.map (toT n))
  | n + 1, .tuple xs => .tuple (xs.map (toT n))
  | _, d => d
def toL : Nat → PyData → PyData
  | n + 1, .list xs => .list (xs.map (toL n))
  | n + 1, .tuple xs => .list (xs.map (toL n))
  | _, d => d
theorem Pl.ok : ∀ {n : Nat} {d : PyData}, Pl n d → okD n d
  | n, .none, _ => ⟨rfl, Nat.zero_le _⟩
  | n, .bool b, _ => ⟨rfl, Nat.zero_le _⟩
  | n, .int i, _ => ⟨rfl, Nat.zero_le _⟩
  | n + 1, .list xs, h => okD_list fun x hx => Pl.ok (h.2 x hx)
  | n + 1, .tuple xs, h => okD_tuple fun x hx => Pl.ok (h.2 x hx)
  | 0, .list xs, h => False.elim h
  | 0, .tuple xs, h => False.elim h
  | 0, .str x, h => False.elim h
  | n + 1, .str x, h => False.elim h
  | 0, .dict x, h => False.elim h
  | n + 1, .dict x, h => False.elim h
theorem pl_sq {n : Nat} {k : Bool} {xs : List PyData} (hl : xs.length ≤ 4000000) (h : ∀ x ∈ xs, Pl n x) : Pl (n + 1) (sq k xs) := by cases k <;> exact ⟨hl, h⟩
theorem pl_int (n : Nat) (i : Int) : Pl n (.int i) := by cases n <;> exact True.intro
theorem pl_non (n : Nat) : Pl n .none := by cases n <;> exact True.intro
theorem pl_bl (n : Nat) (b : Bool) : Pl n (.bool b) := by cases n <;> exact True.intro
theorem pl_say (n : Nat) (o : Option Int) : Pl n (sayD o) := by
  cases o with
  | none => exact pl_non n
  | some i => exact pl_int n i
theorem pl_mono : ∀ {n : Nat} {d : PyData}, Pl n d → Pl (n + 1) d
  | n, .none, _ => True.intro
  | n, .bool b, _ => True.intro
  | n, .int i, _ => True.intro
  | n + 1, .list xs, h => ⟨h.1, fun x hx => pl_mono (h.2 x hx)⟩
  | n + 1, .tuple xs, h => ⟨h.1, fun x hx => pl_mono (h.2 x hx)⟩
  | 0, .list xs, h => False.elim h
  | 0, .tuple xs, h => False.elim h
  | 0, .str x, h => False.elim h
  | n + 1, .str x, h => False.elim h
  | 0, .dict x, h => False.elim h
  | n + 1, .dict x, h => False.elim h
theorem toT_sq {n : Nat} {k : Bool} {xs : List PyData} : toT (n + 1) (sq k xs) = .tuple (xs.map (toT n)) := by cases k <;> rfl
theorem toL_sq {n : Nat} {k : Bool} {xs : List PyData} : toL (n + 1) (sq k xs) = .list (xs.map (toL n)) := by cases k <;> rfl
theorem toT_int (n : Nat) (i : Int) : toT n (.int i) = .int i := by cases n <;> rfl
theorem toL_int (n : Nat) (i : Int) : toL n (.int i) = .int i := by cases n <;> rfl
theorem toT_say (n : Nat) (o : Option Int) : toT n (sayD o) = sayD o := by cases n <;> cases o <;> rfl
theorem toL_say (n : Nat) (o : Option Int) : toL n (sayD o) = sayD o := by cases n <;> cases o <;> rfl
section
variable {w : Wk} {wide : Nat} {r : List Nat} {k : Bool}
theorem pl_walk (W : WOk w wide) (k : Bool) : Pl 4 (walkD k w) := pl_sq (by show 2 ≤ 4000000; omega) fun x hx => by
  rcases List.mem_cons.mp hx with rfl | hx
  · refine pl_sq (by rw [List.length_map]; have := W.few; omega) fun y hy => ?_
    obtain ⟨row, hrow, rfl⟩ := List.mem_map.mp hy
    refine pl_sq (by rw [List.length_map, W.wid _ hrow]; have := W.w3; omega) fun z hz => ?_
    obtain ⟨m, _, rfl⟩ := List.mem_map.mp hz
    refine pl_sq (by show 2 ≤ 4000000; omega) fun a ha => ?_
    rcases List.mem_cons.mp ha with rfl | ha
    · exact pl_int _ _
    · rcases List.mem_cons.mp ha with rfl | ha
      · exact pl_int _ _
      · cases ha
  · rcases List.mem_cons.mp hx with rfl | hx
    · refine pl_sq (by rw [List.length_map, W.len]; have := W.few; omega) fun y hy => ?_
      obtain ⟨o, _, rfl⟩ := List.mem_map.mp hy
      exact pl_say _ _
    · cases hx
theorem pl_ring (R : ROk r wide) (n : Nat) (k : Bool) : Pl (n + 1) (ringD k r) := pl_sq (by rw [List.length_map]; have := R.few; omega) fun x hx => by
  obtain ⟨l, _, rfl⟩ := List.mem_map.mp hx
  exact pl_int _ _
theorem toT_move (n : Nat) (k : Bool) : (toT (n + 1) ∘ moveD k) = moveD false := by
  funext m
  show toT (n + 1) (sq k _) = _
  rw [toT_sq]
  show PyData.tuple [toT n (.int _), toT n (.int _)] = _
  rw [toT_int, toT_int]
  rfl
theorem toL_move (n : Nat) (k : Bool) : (toL (n + 1) ∘ moveD k) = moveD true := by
  funext m
  show toL (n + 1) (sq k _) = _
  rw [toL_sq]
  show PyData.list [toL n (.int _), toL n (.int _)] = _
  rw [toL_int, toL_int]
  rfl
theorem toT_row (n : Nat) (k : Bool) : (toT (n + 2) ∘ rowD k) = rowD false := by
  funext m
  show toT (n + 2) (sq k _) = _
  rw [toT_sq, List.map_map, toT_move]
  rfl
theorem toL_row (n : Nat) (k : Bool) : (toL (n + 2) ∘ rowD k) = rowD true := by
  funext m
  show toL (n + 2) (sq k _) = _
  rw [toL_sq, List.map_map, toL_move]
  rfl
theorem toT_walk (k : Bool) (w : Wk) : toT 4 (walkD k w) = walkD false w := by
  have e1 : toT 3 (stepsD k w) = stepsD false w := by
    show toT 3 (sq k _) = _
    rw [toT_sq, List.map_map, toT_row]
    rfl
  have e2 : toT 3 (saysD k w) = saysD false w := by
    show toT 3 (sq k _) = _
    rw [toT_sq, List.map_map, show (toT 2 ∘ sayD) = sayD from funext fun o => toT_say 2 o]
    rfl
  show toT 4 (sq k _) = _
  rw [toT_sq]
  show PyData.tuple [toT 3 (stepsD k w), toT 3 (saysD k w)] = _
  rw [e1, e2]
  rfl
theorem toL_walk (k : Bool) (w : Wk) : toL 4 (walkD k w) = walkD true w := by
  have e1 : toL 3 (stepsD k w) = stepsD true w := by
    show toL 3 (sq k _) = _
    rw [toL_sq, List.map_map, toL_row]
    rfl
  have e2 : toL 3 (saysD k w) = saysD true w := by
    show toL 3 (sq k _) = _
    rw [toL_sq, List.map_map, show (toL 2 ∘ sayD) = sayD from funext fun o => toL_say 2 o]
    rfl
  show toL 4 (sq k _) = _
  rw [toL_sq]
  show PyData.list [toL 3 (stepsD k w), toL 3 (saysD k w)] = _
  rw [e1, e2]
  rfl
theorem toL_ring (n : Nat) (k : Bool) (r : List Nat) : toL (n + 1) (ringD k r) = ringD true r := by
  show toL (n + 1) (sq k _) = _
  rw [toL_sq, List.map_map, show (toL n ∘ fun (l : Nat) => PyData.int (l : Int)) = fun (l : Nat) => PyData.int (l : Int) from funext fun l => toL_int n _]
  rfl
/-! ### mirrored -/
def mirM (m : Nat × Int) : Nat × Int := (m.1, -m.2)
def mirW (w : Wk) : Wk := ⟨w.steps.map fun row => row.map mirM, w.says⟩
theorem mirW_ok (W : WOk w wide) : WOk (mirW w) wide where
  pos := by show 0 < (w.steps.map _).length; rw [List.length_map]; exact W.pos
  len := by show _ = (w.steps.map _).length; rw [List.length_map]; exact W.len
  wid := fun row hr => by
    obtain ⟨row', h, rfl⟩ := List.mem_map.mp hr
    rw [List.length_map]
    exact W.wid _ h
  sta := fun row hr m hm => by
    obtain ⟨row', h, rfl⟩ := List.mem_map.mp hr
    obtain ⟨m', h', rfl⟩ := List.mem_map.mp hm
    show m'.1 < (w.steps.map _).length
    rw [List.length_map]
    exact W.sta _ h _ h'
  way := fun row hr m hm => by
    obtain ⟨row', h, rfl⟩ := List.mem_map.mp hr
    obtain ⟨m', h', rfl⟩ := List.mem_map.mp hm
    have := W.way _ h _ h'
    show -1 ≤ -m'.2 ∧ -m'.2 ≤ 1
    omega
  few := by show (w.steps.map _).length ≤ _; rw [List.length_map]; exact W.few
  w1 := W.w1
  w3 := W.w3
end
end L3
/-! M5: the ring twice round, turned, read from its end; ways. -/
namespace L3
open PySem
/-- two walks side by side -/
theorem sim {w w' : Wk} {wide : Nat} {r r' : List Nat} {room room' : Nat} (Rel : Nat × Nat → Nat × Nat → Prop) (W : WOk w wide) (R : ROk r wide) (hro : room < r.length) (hs : w'.says = w.says) (h0 : Rel (room', 0) (room, 0))
    (h1 : ∀ p' p, POk w r p → Rel p' p → Rel (nxt w' r' p') (nxt w r p)) (h2 : ∀ p' p, Rel p' p → p'.2 = p.2) : ∀ n, Rel (pos w' r' room' n) (pos w r room n) ∧ saidAt w' r' room' n = saidAt w r room n
  | 0 => ⟨h0, rfl⟩
  | n + 1 => by
    obtain ⟨a, b⟩ := sim Rel W R hro hs h0 h1 h2 n
    have c := h1 _ _ (pos_ok W R hro n) a
    refine ⟨c, ?_⟩
    show (w'.says.getD (nxt w' r' (pos w' r' room' n)).2 none).or (saidAt w' r' room' n) = (w.says.getD (nxt w r (pos w r room n)).2 none).or (saidAt w r room n)
    rw [h2 _ _ c, hs, b]
theorem lt_app1 {r s : List Nat} {i : Nat} (h : i < r.length) : lt_ (r ++ s) i = lt_ r i := by
  unfold lt_
  rw [List.getD_eq_getElem?_getD, List.getD_eq_getElem?_getD, List.getElem?_append_left h]
theorem lt_app2 {r s : List Nat} {i : Nat} (h : r.length ≤ i) : lt_ (r ++ s) i = lt_ s (i - r.length) := by
  unfold lt_
  rw [List.getD_eq_getElem?_getD, List.getD_eq_getElem?_getD, List.getElem?_append_right h]
section
variable {w : Wk} {wide : Nat} {r : List Nat} {room : Nat}
/-! ### twice round -/
theorem twice_ok (R : ROk r wide) (h : r.length ≤ 500) : ROk (r ++ r) wide :=
  ⟨by rw [List.length_append]; have := R.pos; omega, fun l hl => by rcases List.mem_append.mp hl with z | z <;> exact R.let_ l z, by rw [List.length_append]; omega⟩
theorem twice_let {i : Nat} (h : i < (r ++ r).length) (hp : 0 < r.length) : lt_ (r ++ r) i = lt_ r (i % r.length) := by
  rw [List.length_append] at h
  by_cases q : i < r.length
  · rw [lt_app1 q, Nat.mod_eq_of_lt q]
  · rw [lt_app2 (by omega), Nat.mod_eq_sub_mod (by omega), Nat.mod_eq_of_lt (by omega)]
theorem twice_said (W : WOk w wide) (R : ROk r wide) (h5 : r.length ≤ 500) (hro : room < r.length) (n : Nat) : saidAt w (r ++ r) room n = saidAt w r room n := by
  have R2 := twice_ok R h5
  have hp := R.pos
  refine (sim (w' := w) (r' := r ++ r) (room' := room) (fun p' p => p'.1 < (r ++ r).length ∧ p'.1 % r.length = p.1 ∧ p'.2 = p.2) W R hro rfl ⟨by rw [List.length_append]; omega, Nat.mod_eq_of_lt hro, rfl⟩ (fun p' p hok ⟨a, b, c⟩ => ?_) (fun p' p h => h.2.2) n).2
  obtain ⟨p1, p2⟩ := p
  obtain ⟨q1, q2⟩ := p'
  have b0 : q1 % r.length = p1 := b
  have c : q2 = p2 := c
  subst c
  have el : lt_ (r ++ r) q1 = lt_ r p1 := by rw [twice_let a hp, b0]
  have ok2 : POk w (r ++ r) (q1, q2) := ⟨a, hok.2⟩
  have n2 := nxt_ok W R2 ok2
  refine ⟨n2.1, ?_, ?_⟩
  · have e1 := nxt_int (w := w) (p := (q1, q2)) R2
    have e2 := nxt_int (w := w) (p := (p1, q2)) R
    simp only at e1 e2
    rw [el, List.length_append] at e1
    have e3 : (((nxt w (r ++ r) (q1, q2)).1 : Int) % (r.length : Int)) = ((nxt w r (p1, q2)).1 : Int) := by
      rw [← e1, ← e2, Int.emod_emod_of_dvd _ (by exact ⟨2, by omega⟩), ← b0, Int.natCast_emod, Int.emod_add_emod]
    have e4 : (((nxt w (r ++ r) (q1, q2)).1 % r.length : Nat) : Int) = ((nxt w r (p1, q2)).1 : Int) := by rw [Int.natCast_emod]; exact e3
    exact Int.ofNat.inj e4
  · show (mv w q2 (lt_ (r ++ r) q1)).1 = (mv w q2 (lt_ r p1)).1
    rw [el]
/-! ### turned -/
def turnR (r : List Nat) (t : Nat) : List Nat := r.drop t ++ r.take t
theorem turn_len {t : Nat} (h : t < r.length) : (turnR r t).length = r.length := by
  unfold turnR
  rw [List.length_append, List.length_drop, List.length_take]
  omega
theorem turn_ok (R : ROk r wide) {t : Nat} (h : t < r.length) : ROk (turnR r t) wide :=
  ⟨by rw [turn_len h]; exact R.pos, fun l hl => by
    rcases List.mem_append.mp hl with z | z
    · exact R.let_ l (List.mem_of_mem_drop z)
    · exact R.let_ l (List.mem_of_mem_take z), by rw [turn_len h]; exact R.few⟩
theorem turn_let {t a : Nat} (h : t < r.length) (ha : a < r.length) (j : Nat) (hj : (j : Int) = ((a : Int) - (t : Int)) % (r.length : Int)) : lt_ (turnR r t) j = lt_ r a := by
  unfold turnR
  by_cases q : t ≤ a
  · have ej : j = a - t := by
      rw [Int.emod_eq_of_lt (by omega) (by omega)] at hj
      omega
    rw [lt_app1 (by rw [List.length_drop]; omega), ej]
    unfold lt_
    rw [List.getD_eq_getElem?_getD, List.getD_eq_getElem?_getD, List.getElem?_drop, show t + (a - t) = a by omega]
  · have ej : j = r.length - t + a := by
      rw [show ((a : Int) - (t : Int)) = ((r.length - t + a : Nat) : Int) + (r.length : Int) * (-1) by omega, Int.add_mul_emod_self_left, Int.emod_eq_of_lt (by omega) (by omega)] at hj
      omega
    rw [lt_app2 (by rw [List.length_drop]; omega), List.length_drop, ej, show r.length - t + a - (r.length - t) = a by omega]
    unfold lt_
    rw [List.getD_eq_getElem?_getD, List.getD_eq_getElem?_getD, List.getElem?_take, if_pos (by omega)]
theorem turn_said (W : WOk w wide) (R : ROk r wide) (hro : room < r.length) {t : Nat} (h : t < r.length) (room' : Nat) (hr' : (room' : Int) = ((room : Int) - (t : Int)) % (r.length : Int)) (n : Nat) : saidAt w (turnR r t) room' n = saidAt w r room n := by
  have R2 := turn_ok R h
  have hp := R.pos
  refine (sim (w' := w) (r' := turnR r t) (room' := room') (fun p' p => (p'.1 : Int) = ((p.1 : Int) - (t : Int)) % (r.length : Int) ∧ p'.2 = p.2) W R hro rfl ⟨hr', rfl⟩ (fun p' p hok ⟨a, c⟩ => ?_) (fun p' p h => h.2) n).2
  obtain ⟨p1, p2⟩ := p
  obtain ⟨q1, q2⟩ := p'
  have a : (q1 : Int) = ((p1 : Int) - (t : Int)) % (r.length : Int) := a
  have c : q2 = p2 := c
  subst c
  have el : lt_ (turnR r t) q1 = lt_ r p1 := turn_let h hok.1 q1 a
  refine ⟨?_, ?_⟩
  · have e1 := nxt_int (w := w) (p := (q1, q2)) R2
    have e2 := nxt_int (w := w) (p := (p1, q2)) R
    simp only at e1 e2
    rw [el, turn_len h] at e1
    show ((nxt w (turnR r t) (q1, q2)).1 : Int) = (((nxt w r (p1, q2)).1 : Int) - (t : Int)) % (r.length : Int)
    rw [← e1, ← e2, a, Int.emod_add_emod]
    rw [show ∀ x y : Int, x - y = x + -y from fun _ _ => Int.sub_eq_add_neg, show ∀ x y : Int, x - y = x + -y from fun _ _ => Int.sub_eq_add_neg, Int.emod_add_emod]
    congr 1
    omega
  · show (mv w q2 (lt_ (turnR r t) q1)).1 = (mv w q2 (lt_ r p1)).1
    rw [el]
/-! ### read from its end -/
theorem rev_ok (R : ROk r wide) : ROk r.reverse wide :=
  ⟨by rw [List.length_reverse]; exact R.pos, fun l hl => R.let_ l (List.mem_reverse.mp hl), by rw [List.length_reverse]; exact R.few⟩
theorem rev_let {a : Nat} (ha : a < r.length) : lt_ r.reverse (r.length - 1 - a) = lt_ r a := by
  unfold lt_
  rw [List.getD_eq_getElem?_getD, List.getD_eq_getElem?_getD, List.getElem?_reverse (by omega), show r.length - 1 - (r.length - 1 - a) = a by omega]
theorem mir_mv (W : WOk w wide) {s l : Nat} (hs : s < w.steps.length) (h1 : 1 ≤ l) (h2 : l ≤ wide) : mv (mirW w) s l = mirM (mv w s l) := by
  have hw := W.wid _ (row_mem hs)
  have hl : l - 1 < (row w s).length := by omega
  have er : row (mirW w) s = (row w s).map mirM := by
    unfold row
    show (w.steps.map fun row => row.map mirM).getD s [] = _
    rw [List.getD_eq_getElem?_getD, List.getD_eq_getElem?_getD, List.getElem?_map, List.getElem?_eq_getElem hs]
    rfl
  unfold mv
  rw [er, List.getD_eq_getElem?_getD, List.getD_eq_getElem?_getD, List.getElem?_map, List.getElem?_eq_getElem hl]
  rfl
theorem mod_mirror (n a : Int) (hn : 0 < n) : (n - 1 - a) % n = n - 1 - a % n := by
  have h1 := Int.emod_nonneg a (b := n) (by omega)
  have h2 := Int.emod_lt_of_pos a hn
  have e := Int.emod_add_mul_ediv a n
  have e2 : n - 1 - a = (n - 1 - a % n) + n * (-(a / n)) := by
    rw [Int.mul_neg]
    omega
  rw [e2, Int.add_mul_emod_self_left, Int.emod_eq_of_lt (by omega) (by omega)]
theorem mir_walk (W : WOk w wide) (R : ROk r wide) (hro : room < r.length) (n : Nat) : pos (mirW w) r.reverse (r.length - 1 - room) n = (r.length - 1 - (pos w r room n).1, (pos w r room n).2) ∧ saidAt (mirW w) r.reverse (r.length - 1 - room) n = saidAt w r room n := by
  have R2 := rev_ok R
  have hp := R.pos
  refine sim (w' := mirW w) (r' := r.reverse) (room' := r.length - 1 - room) (fun p' p => p' = (r.length - 1 - p.1, p.2)) W R hro rfl rfl (fun p' p hok e => ?_) (fun p' p h => by rw [h]) n
  subst e
  obtain ⟨p1, p2⟩ := p
  obtain ⟨l1, l2⟩ := let_ok R hok.1
  have el : lt_ r.reverse (r.length - 1 - p1) = lt_ r p1 := rev_let hok.1
  have em : mv (mirW w) p2 (lt_ r.reverse (r.length - 1 - p1)) = mirM (mv w p2 (lt_ r p1)) := by rw [el]; exact mir_mv W hok.2 l1 l2
  have e1 := nxt_int (w := mirW w) (p := (r.length - 1 - p1, p2)) R2
  have e2 := nxt_int (w := w) (p := (p1, p2)) R
  simp only at e1 e2
  rw [em, List.length_reverse] at e1
  have hok1 : p1 < r.length := hok.1
  have n1 := (nxt_ok W R hok).1
  refine Prod.ext ?_ ?_
  · show (nxt (mirW w) r.reverse (r.length - 1 - p1, p2)).1 = r.length - 1 - (nxt w r (p1, p2)).1
    have e3 : ((nxt (mirW w) r.reverse (r.length - 1 - p1, p2)).1 : Int) = (r.length : Int) - 1 - ((nxt w r (p1, p2)).1 : Int) := by
      rw [← e1, ← e2, ← mod_mirror _ _ (by omega)]
      congr 1
      show ((r.length - 1 - p1 : Nat) : Int) + -(mv w p2 (lt_ r p1)).2 = _
      omega
    omega
  · show (mv (mirW w) p2 (lt_ r.reverse (r.length - 1 - p1))).1 = (mv w p2 (lt_ r p1)).1
    rw [em]
    rfl
/-! ### ways -/
def waysL (l : List (List (Nat × Int))) : List Int := (l.map fun ro => ro.map fun m => m.2).flatten
theorem ways_all : ∀ xs : List Int, PyData.eqv (.list (xs.map .int)) (.list (List.replicate xs.length (.int 1))) = (xs.map fun i => decide (i = 1)).all id
  | [] => rfl
  | x :: xs => by
    have ih := ways_all xs
    rw [PyData.eqv] at ih
    rw [PyData.eqv, List.map_cons, List.length_cons, List.replicate_succ, PyData.eqvAll, ih, List.map_cons, List.all_cons]
    rfl
theorem all_flat : ∀ l : List (List Bool), l.flatten.all id = (l.map fun b => b.all id).all id
  | [] => rfl
  | b :: l => by rw [List.flatten_cons, List.all_append, all_flat l, List.map_cons, List.all_cons]; rfl
theorem ways_goes (w : Wk) : ((waysL w.steps).map fun i => decide (i = 1)).all id = (w.steps.map fun ro => (ro.map fun m => decide (m.2 = 1)).all id).all id := by
  unfold waysL
  rw [List.map_flatten, all_flat, List.map_map, List.map_map]
  congr 1
  refine List.map_congr_left fun ro _ => ?_
  show ((ro.map fun m => m.2).map fun i => decide (i = 1)).all id = _
  rw [List.map_map]
  rfl
theorem ways_len (W : WOk w wide) : (waysL w.steps).length = w.steps.length * wide := by
  have : ∀ l : List (List (Nat × Int)), (∀ ro ∈ l, ro.length = wide) → (waysL l).length = l.length * wide := by
    intro l
    induction l with
    | nil => intro _; simp [waysL]
    | cons ro l ih =>
      intro h
      show ((ro.map fun m => m.2) ++ waysL l).length = _
      rw [List.length_append, List.length_map, h ro List.mem_cons_self, ih fun r hr => h r (List.mem_cons_of_mem _ hr), List.length_cons, Nat.add_mul, Nat.one_mul, Nat.add_comm]
  exact this _ W.wid
end
end L3
/-! M6: small laws for _law_right. -/
namespace L3
open PySem
theorem cut_head (xs : List PyData) (n : Nat) : cutD xs none (some (n : Int)) = xs.take n := by
  have e : HT.sIx xs.length xs.length (some (n : Int)) = min n xs.length := by
    show (if (n : Int) < 0 then ((n : Int) + (xs.length : Int)).toNat else min (n : Int).toNat xs.length) = _
    rw [if_neg (by omega), Int.toNat_natCast]
  unfold cutD
  rw [e]
  show (xs.drop 0).take (min n xs.length - 0) = _
  rw [List.drop_zero, Nat.sub_zero]
  by_cases h : n ≤ xs.length
  · rw [Nat.min_eq_left h]
  · rw [Nat.min_eq_right (by omega), List.take_length, List.take_of_length_le (by omega)]
theorem cut_tail (xs : List PyData) (n : Nat) : cutD xs (some (n : Int)) none = xs.drop n := by
  have e : HT.sIx xs.length 0 (some (n : Int)) = min n xs.length := by
    show (if (n : Int) < 0 then ((n : Int) + (xs.length : Int)).toNat else min (n : Int).toNat xs.length) = _
    rw [if_neg (by omega), Int.toNat_natCast]
  unfold cutD
  rw [e]
  show (xs.drop (min n xs.length)).take (xs.length - min n xs.length) = _
  by_cases h : n ≤ xs.length
  · rw [Nat.min_eq_left h, List.take_of_length_le (by rw [List.length_drop]; omega)]
  · rw [Nat.min_eq_right (by omega), List.drop_length, List.drop_eq_nil_of_le (by omega), List.take_nil]
section
variable {w w' : Wk} {wide : Nat} {r r' : List Nat} {room room' : Nat}
theorem saids_eq (h : ∀ n, saidAt w' r' room' n = saidAt w r room n) (n : Nat) : saidsD w' r' room' n = saidsD w r room n := by
  unfold saidsD
  exact List.map_congr_left fun i _ => by rw [h]
theorem pl_tri (p : Nat × Nat) (o : Option Int) (n : Nat) : Pl (n + 1) (triD p o) := ⟨by show 3 ≤ 4000000; omega, fun x hx => by
  rcases List.mem_cons.mp hx with rfl | hx
  · exact pl_int _ _
  rcases List.mem_cons.mp hx with rfl | hx
  · exact pl_int _ _
  rcases List.mem_cons.mp hx with rfl | hx
  · exact pl_say _ _
  · cases hx⟩
theorem pl_rows {n m : Nat} (h : n ≤ 4000000) : Pl (m + 2) (.tuple (rowsD w r room n)) := ⟨by rw [rowsD_length]; exact h, fun x hx => by
  unfold rowsD at hx
  obtain ⟨i, _, rfl⟩ := List.mem_map.mp hx
  exact pl_tri _ _ _⟩
theorem pl_says {l : List (Option Int)} {n : Nat} (h : l.length ≤ 4000000) (k : Bool) : Pl (n + 1) (sq k (l.map sayD)) := pl_sq (by rw [List.length_map]; exact h) fun x hx => by
  obtain ⟨o, _, rfl⟩ := List.mem_map.mp hx
  exact pl_say _ _
theorem pl_saids {n m : Nat} (h : n ≤ 4000000) : Pl (m + 1) (.list (saidsD w r room n)) := ⟨by rw [saidsD_length]; exact h, fun x hx => by
  unfold saidsD at hx
  obtain ⟨i, _, rfl⟩ := List.mem_map.mp hx
  exact pl_say _ _⟩
theorem pl_two {n : Nat} {x y : PyData} (hx : Pl n x) (hy : Pl n y) : Pl (n + 1) (.list [x, y]) := ⟨by show 2 ≤ 4000000; omega, fun z hz => by
  rcases List.mem_cons.mp hz with rfl | hz
  · exact hx
  rcases List.mem_cons.mp hz with rfl | hz
  · exact hy
  · cases hz⟩
theorem pl_four {n : Nat} {x y z u : PyData} (hx : Pl n x) (hy : Pl n y) (hz : Pl n z) (hu : Pl n u) : Pl (n + 1) (.list [x, y, z, u]) := ⟨by show 4 ≤ 4000000; omega, fun t ht => by
  rcases List.mem_cons.mp ht with rfl | ht
  · exact hx
  rcases List.mem_cons.mp ht with rfl | ht
  · exact hy
  rcases List.mem_cons.mp ht with rfl | ht
  · exact hz
  rcases List.mem_cons.mp ht with rfl | ht
  · exact hu
  · cases ht⟩
theorem ways_succ {l : List (List (Nat × Int))} {i : Nat} {ro : List (Nat × Int)} (h : l[i]? = some ro) : waysL (l.take (i + 1)) = waysL (l.take i) ++ ro.map fun m => m.2 := by
  unfold waysL
  rw [List.take_add_one, h, List.map_append, List.flatten_append]
  simp
theorem ways_take_len (W : WOk w wide) (i : Nat) (h6 : w.steps.length ≤ 6) : (waysL (w.steps.take i)).length ≤ 18 := by
  have key : ∀ l : List (List (Nat × Int)), (∀ ro ∈ l, ro.length ≤ 3) → (waysL l).length ≤ l.length * 3 := by
    intro l
    induction l with
    | nil => intro _; simp [waysL]
    | cons ro l ih =>
      intro h
      show ((ro.map fun m => m.2) ++ waysL l).length ≤ _
      have h1 := h ro List.mem_cons_self
      have h2 := ih fun r hr => h r (List.mem_cons_of_mem _ hr)
      rw [List.length_append, List.length_map, List.length_cons]
      omega
  have h1 := key (w.steps.take i) fun ro hr => by
    rw [W.wid _ (List.mem_of_mem_take hr)]
    exact W.w3
  rw [List.length_take] at h1
  have : min i w.steps.length ≤ 6 := by omega
  omega
theorem ring_cat : PyData.tuple ((r.map fun (l : Nat) => PyData.int (l : Int)) ++ r'.map fun (l : Nat) => PyData.int (l : Int)) = ringD false (r ++ r') := by
  unfold ringD
  rw [List.map_append]
  rfl
theorem mir_tri (W : WOk w wide) (R : ROk r wide) (hro : room < r.length) (n : Nat) : triAt (mirW w) r.reverse (r.length - 1 - room) n = .tuple [.int ((r.length : Int) - 1 - ((pos w r room n).1 : Int)), .int ((pos w r room n).2 : Int), sayD (saidAt w r room n)] := by
  obtain ⟨e1, e2⟩ := mir_walk W R hro n
  unfold triAt
  rw [e1, e2]
  have := (pos_ok W R hro n).1
  show PyData.tuple [.int ((r.length - 1 - (pos w r room n).1 : Nat) : Int), _, _] = _
  rw [show ((r.length - 1 - (pos w r room n).1 : Nat) : Int) = (r.length : Int) - 1 - ((pos w r room n).1 : Int) by omega]
end
end L3
/-! W1: the walk of the small defs. -/
namespace L3
open PySem PySem.Spec PyProof.Rows L2
local macro_rules | `(tactic| walk_at "E") => `(tactic| first
  | (with_reducible exact ev_int)
  | (with_reducible exact ev_bl)
  | (with_reducible exact ev_non)
  | ((with_reducible apply ev_v); exact rfl)
  | ((with_reducible apply eix) <;> walk_at "E")
  | ((with_reducible apply elen) <;> walk_at "E")
  | ((with_reducible apply etup) <;> walk_at "E")
  | ((with_reducible apply etupl) <;> walk_at "E")
  | ((with_reducible apply elst) <;> walk_at "E")
  | (with_reducible exact eva_nil)
  | ((with_reducible apply eva_cons) <;> walk_at "E")
  | ((with_reducible apply ev_I0i) <;> walk_at "E")
  | ((with_reducible apply ev_I0b) <;> walk_at "E")
  | ((with_reducible apply ev_Ii) <;> walk_at "E")
  | ((with_reducible apply ev_neg) <;> walk_at "E")
  | ((with_reducible apply ev_isi2) <;> walk_at "E")
  | ((with_reducible apply ev_isi) <;> walk_at "E")
  | ((with_reducible apply ev_int1) <;> walk_at "E")
  | ((with_reducible apply evt_test) <;> walk_at "E")
  | ((with_reducible apply evt_b) <;> walk_at "E")
  | ((with_reducible apply evt_not) <;> walk_at "E")
  | ((with_reducible apply ev_isN) <;> walk_at "E")
  | ((with_reducible apply ev_notN) <;> walk_at "E")
  | ((with_reducible apply ev_call) <;> walk_at "E")
  | ((with_reducible apply ev_eqD) <;> walk_at "E")
  | ((with_reducible apply ev_neD) <;> walk_at "E")
  | ((with_reducible apply elstM) <;> walk_at "E")
  | ((with_reducible apply ex_seq) <;> walk_at "E")
  | ((with_reducible apply ex_retE) <;> walk_at "E")
  | ((with_reducible apply ex_asg) <;> walk_at "E")
  | ((with_reducible apply ex_setD) <;> walk_at "E")
  | (with_reducible exact ex_next)
  | (with_reducible exact evg_name)
  | (with_reducible exact evgs_nil)
  | ((with_reducible apply evgs_cons) <;> walk_at "E")
  | ((with_reducible apply gseq) <;> walk_at "E")
  | ((with_reducible apply ev_slice) <;> walk_at "E")
  | (with_reducible exact evo_none)
  | ((with_reducible apply evo_some) <;> walk_at "E")
  | (show (_ : Prop); assumption)
  | exact rfl
  | skip)
local macro_rules | `(tactic| walk_at "V") => `(tactic| ((apply ev_to) <;> walk_at "E"))
def top (i : Nat) : Stmt := PySem.Challenge.pw_roundtold_k14_whole_walks_step_by_step.main.body.getD i (.Pass ⟨0, 0, 0, 0⟩)
/-- the built-in names as they are -/
structure Tx (mg : Str → Option Value) : Prop where
  isinstance : mg "isinstance" = none
  int : mg "int" = none
  bool : mg "bool" = none
  str : mg "str" = none
  list : mg "list" = none
  tuple : mg "tuple" = none
  len : mg "len" = none
  all : mg "all" = none
  range : mg "range" = none
  enumerate : mg "enumerate" = none
  zip : mg "zip" = none
  abs : mg "abs" = none
theorem k_ii : kitB "int" "int" = some true := by decide +kernel
theorem k_ib : kitB "int" "bool" = some false := by decide +kernel
theorem k_il : kitB "int" "list" = some false := by decide +kernel
theorem k_it : kitB "int" "tuple" = some false := by decide +kernel
theorem k_is_ : kitB "int" "str" = some false := by decide +kernel
theorem k_tt : kitB "tuple" "tuple" = some true := by decide +kernel
theorem k_tl : kitB "tuple" "list" = some false := by decide +kernel
theorem k_ll : kitB "list" "list" = some true := by decide +kernel
theorem k_lt : kitB "list" "tuple" = some false := by decide +kernel
theorem k_nl : kitB "NoneType" "list" = some false := by decide +kernel
theorem k_nt : kitB "NoneType" "tuple" = some false := by decide +kernel
theorem k_nb : kitB "NoneType" "bool" = some false := by decide +kernel
theorem k_bl : kitB "bool" "list" = some false := by decide +kernel
theorem k_bt : kitB "bool" "tuple" = some false := by decide +kernel
theorem k_bb : kitB "bool" "bool" = some true := by decide +kernel
theorem k_bs : kitB "bool" "str" = some false := by decide +kernel
theorem k_ns : kitB "NoneType" "str" = some false := by decide +kernel
theorem two_ (x y : PyData) : itemsD (.tuple [x, y]) = some [x, y] := rfl
section
variable {P : Program} {w : World} {K : PySem.W.Frag} {mg : Str → Option Value} {base : Heap}
/-! ### is_number -/
def RIsNumber (ds : List PyData) (r : PyData) : Prop := ∃ i : Int, ds = [.int i] ∧ r = .bool true
theorem sc_is_number : FnScope ["thing"] ["thing"] (defScope (top 3)) := ⟨rfl, rfl, rfl, by decide +kernel, rfl, by decide +kernel, by decide +kernel⟩
theorem ok_is_number (T : Tx mg) (F : Def K mg "is_number" ["thing"] (top 3)) : Cal P w K mg base "is_number" ["thing"] 1 (spD RIsNumber) := by
  have sc := sc_is_number
  refine def_ok F sc (fun ds r h => ?_) fun f cdv A outer s H E ds r hr h => ?_
  · obtain ⟨_, rfl, _⟩ := h
    rfl
  obtain ⟨i, rfl, rfl⟩ := h
  refine ⟨_, (pss_one (ps_ret (pe_and (pe_callB (isiK K) rfl T.isinstance (by decide +kernel) (pa_cons (pv 0) (pa_cons (pe_bltn (v := .ty "int") rfl T.int PyProof.Rows.boot_int rfl) pa_nil))) (pe_one (pe_not (pe_callB (isiK K) rfl T.isinstance (by decide +kernel) (pa_cons (pv 0) (pa_cons (pe_bltn (v := .ty "bool") rfl T.bool PyProof.Rows.boot_bool rfl) pa_nil)))))))), ?_⟩
  refine ex_ret (ev_andV (b := true) (c := true) (ev_isi (x := .int i) (ev_v rfl) k_ii) fun _ => ?_)
  exact ev_notV (b := false) (ev_isi (x := .int i) (ev_v rfl) k_ib)
/-! ### is_tuple_of -/
def RIsTupleOf (ds : List PyData) (r : PyData) : Prop := ∃ (xs : List PyData), ds = [.tuple xs, .int (xs.length : Int)] ∧ r = .bool true
theorem sc_is_tuple_of : FnScope ["thing", "many"] ["thing", "many"] (defScope (top 5)) := ⟨rfl, rfl, rfl, by decide +kernel, rfl, by decide +kernel, by decide +kernel⟩
theorem eqv_int (i : Int) : PyData.eqv (.int i) (.int i) = true := by simp [PyData.eqv]
theorem ok_is_tuple_of (T : Tx mg) (F : Def K mg "is_tuple_of" ["thing", "many"] (top 5)) : Cal P w K mg base "is_tuple_of" ["thing", "many"] 1 (spD RIsTupleOf) := by
  have sc := sc_is_tuple_of
  refine def_ok F sc (fun ds r h => ?_) fun f cdv A outer s H E ds r hr h => ?_
  · obtain ⟨_, rfl, _⟩ := h
    rfl
  obtain ⟨xs, rfl, rfl⟩ := h
  refine ⟨_, (pss_one (ps_ret (pe_and (pe_callB (isiK K) rfl T.isinstance (by decide +kernel) (pa_cons (pv 0) (pa_cons (pe_bltn (v := .ty "tuple") rfl T.tuple PyProof.Rows.boot_tuple rfl) pa_nil))) (pe_one (pe_cmpR (eqK K hr.units) (pe_callB (lenK K) rfl T.len PySem.boot_len (pa_cons (pv 0) pa_nil)) (pv 1) (nomark _)))))), ?_⟩
  refine ex_ret (ev_andV (b := true) (c := true) (ev_isi (x := .tuple xs) (ev_v rfl) k_tt) fun _ => ?_)
  have h := ev_eqD (K := K) (δ := stD ["thing", "many"] [.tuple xs, .int (xs.length : Int)]) (elen (K := K) (ev_v (i := 0) rfl) (rfl : itemsD (.tuple xs) = some xs)) (ev_v (i := 1) rfl) rfl rfl
  rw [eqv_int] at h
  exact h
/-! ### stepped -/
def RStepped (ds : List PyData) (r : PyData) : Prop := ∃ (k k' : Bool) (w : Wk) (wide : Nat) (ring : List Nat) (p : Nat × Nat), WOk w wide ∧ ROk ring wide ∧ POk w ring p ∧ ds = [walkD k w, ringD k' ring, posD p] ∧ r = posD (nxt w ring p)
theorem sc_stepped : FnScope ["walker", "ring", "place", "room", "state", "later", "way"] ["walker", "ring", "place"] (defScope (top 14)) := ⟨rfl, rfl, rfl, by decide +kernel, rfl, by decide +kernel, by decide +kernel⟩
theorem ok_stepped (T : Tx mg) (F : Def K mg "stepped" ["walker", "ring", "place"] (top 14)) : Cal P w K mg base "stepped" ["walker", "ring", "place"] 1 (spD RStepped) := by
  have sc := sc_stepped
  refine def_ok F sc (fun ds r h => ?_) fun f cdv A outer s H E ds r hr h => ?_
  · obtain ⟨_, _, _, _, _, _, _, _, _, rfl, _⟩ := h
    rfl
  obtain ⟨k, k', w, wide, ring, p, W, R, hp, rfl, rfl⟩ := h
  refine ⟨_, (pss_cons (ps_asg (pv 2) (pg_seqK K 2 rfl (pgs_cons (pg_name (i := 3) sc.nd rfl (Or.inl rfl)) (pgs_cons (pg_name (i := 4) sc.nd rfl (Or.inl rfl)) pgs_nil))))
    (pss_cons (ps_asg (pe_ix (ixK K) (pe_ix (ixK K) (pe_ix (ixK K) (pv 0) pe_int (fun _ _ => rfl)) (pv 4) (fun _ _ => rfl)) (pe_op op_sub (pe_ix (ixK K) (pv 1) (pv 3) (fun _ _ => rfl)) pe_int) (fun _ _ => rfl)) (pg_seqK K 2 rfl (pgs_cons (pg_name (i := 5) sc.nd rfl (Or.inl rfl)) (pgs_cons (pg_name (i := 6) sc.nd rfl (Or.inl rfl)) pgs_nil))))
    (pss_one (ps_ret (pe_tup (pa_cons (pe_op op_mod (pe_op op_add (pv 3) (pv 6)) (pe_callB (lenK K) rfl T.len PySem.boot_len (pa_cons (pv 1) pa_nil))) (pa_cons (pv 5) pa_nil))))))), ?_⟩
  obtain ⟨l1, l2⟩ := let_ok R hp.1
  have g0 : getD (walkD k w) 0 = some (stepsD k w) := getW0
  have g1 : getD (stepsD k w) (p.2 : Int) = some (rowD k (row w p.2)) := getRow hp.2
  have g2 : getD (ringD k' ring) (p.1 : Int) = some (.int (lt_ ring p.1 : Nat)) := getLet hp.1
  have g3 : getD (rowD k (row w p.2)) ((lt_ ring p.1 : Nat) - 1 : Int) = some (moveD k (mv w p.2 (lt_ ring p.1))) := getMove W hp.2 l1 l2
  have g4 := itMove (k := k) (m := mv w p.2 (lt_ ring p.1))
  have g5 := itRing (k := k') (r := ring)
  have g6 : itemsD (posD p) = some [.int (p.1 : Int), .int (p.2 : Int)] := rfl
  walk_at "E"
  · rw [List.length_map]
    have := R.pos
    omega
  · rw [List.length_map, nxt_int R]
    rfl
/-! ### said_by -/
def RSaidBy (ds : List PyData) (r : PyData) : Prop := ∃ (k : Bool) (w : Wk) (said : Option Int) (st : Nat), st < w.says.length ∧ ds = [walkD k w, sayD said, .int (st : Int)] ∧ r = sayD ((w.says.getD st none).or said)
theorem sc_said_by : FnScope ["walker", "said", "state", "own"] ["walker", "said", "state"] (defScope (top 16)) := ⟨rfl, rfl, rfl, by decide +kernel, rfl, by decide +kernel, by decide +kernel⟩
theorem ok_said_by (T : Tx mg) (F : Def K mg "said_by" ["walker", "said", "state"] (top 16)) : Cal P w K mg base "said_by" ["walker", "said", "state"] 1 (spD RSaidBy) := by
  have sc := sc_said_by
  refine def_ok F sc (fun ds r h => ?_) fun f cdv A outer s H E ds r hr h => ?_
  · obtain ⟨_, _, _, _, _, rfl, _⟩ := h
    rfl
  obtain ⟨k, w, said, st, hs, rfl, rfl⟩ := h
  refine ⟨_, (pss_cons (ps_set (i := 3) sc.nd rfl (Or.inl rfl) (pe_ix (ixK K) (pe_ix (ixK K) (pv 0) pe_int (fun _ _ => rfl)) (pv 2) (fun _ _ => rfl)))
    (pss_one (ps_ret (pe_ifExp (pt_cmp (pc_isN (pv 3)) rfl) (pv 1) (pv 3))))), ?_⟩
  have g0 : getD (walkD k w) 1 = some (saysD k w) := getW1
  have g1 : getD (saysD k w) (st : Int) = some (sayD (w.says.getD st none)) := getSay hs
  refine ex_seq (ex_set (s := .d (sayD (w.says.getD st none))) (by walk_at "E")) (ex_ret ?_)
  refine ev_if (b := isNoneD (sayD (w.says.getD st none))) (evt_b (ev_isN (ev_v rfl))) (fun e => ?_) (fun e => ?_)
  · cases h : w.says.getD st none with
    | none => exact ev_v rfl
    | some i => rw [h] at e; cases e
  · cases h : w.says.getD st none with
    | none => rw [h] at e; cases e
    | some i => exact ev_v rfl
/-! ### sure_room -/
def RSureRoom (ds : List PyData) (r : PyData) : Prop := ∃ (k : Bool) (ring : List Nat) (room : Nat), room < ring.length ∧ ds = [ringD k ring, .int (room : Int)] ∧ r = .none
theorem sc_sure_room : FnScope ["ring", "room"] ["ring", "room"] (defScope (top 13)) := ⟨rfl, rfl, rfl, by decide +kernel, rfl, by decide +kernel, by decide +kernel⟩
theorem ok_sure_room (T : Tx mg) (F : Def K mg "sure_room" ["ring", "room"] (top 13)) : Cal P w K mg base "sure_room" ["ring", "room"] 1 (spD RSureRoom) := by
  have sc := sc_sure_room
  refine def_okN F sc (fun ds r h => ?_) fun f cdv A outer s H E ds r hr h => ?_
  · obtain ⟨_, _, _, _, rfl, _⟩ := h
    rfl
  obtain ⟨k, ring, room, hlt, rfl, rfl⟩ := h
  refine ⟨rfl, _, stD ["ring", "room"] [ringD k ring, .int (room : Int)], (pss_one (ps_if (pt_not (pt_chain op_le op_lt pe_int (pv 1) (pe_callB (lenK K) rfl T.len PySem.boot_len (pa_cons (pv 0) pa_nil)))) (pss_one ps_never) pss_nil)), ?_⟩
  have hc := ev_chain (g := fun i j => decide (i ≤ j)) (g' := fun i j => decide (i < j)) (δ := stD ["ring", "room"] [ringD k ring, .int (room : Int)]) (ta := tC (.int 0)) (tb := tVar 1) ev_int (ev_v rfl) (fun _ => elen (K := K) (ta := tVar 0) (ev_v rfl) itRing)
  rw [decide_eq_true (show (0 : Int) ≤ (room : Int) by omega), decide_eq_true (show (room : Int) < ((ring.map fun (l : Nat) => PyData.int (l : Int)).length : Int) by rw [List.length_map]; omega)] at hc
  exact ex_ifF (evt_not (b := true) (evt_test hc)) ex_next
/-! ### wide_walked -/
def RWideWalked (ds : List PyData) (r : PyData) : Prop := ∃ (k : Bool) (w : Wk) (wide : Nat), WOk w wide ∧ ds = [walkD k w] ∧ r = .int (wide : Int)
theorem sc_wide_walked : FnScope ["walker"] ["walker"] (defScope (top 10)) := ⟨rfl, rfl, rfl, by decide +kernel, rfl, by decide +kernel, by decide +kernel⟩
theorem ok_wide_walked (T : Tx mg) (F : Def K mg "wide_walked" ["walker"] (top 10)) : Cal P w K mg base "wide_walked" ["walker"] 1 (spD RWideWalked) := by
  have sc := sc_wide_walked
  refine def_ok F sc (fun ds r h => ?_) fun f cdv A outer s H E ds r hr h => ?_
  · obtain ⟨_, _, _, _, rfl, _⟩ := h
    rfl
  obtain ⟨k, w, wide, W, rfl, rfl⟩ := h
  refine ⟨_, (pss_one (ps_ret (pe_callB (lenK K) rfl T.len PySem.boot_len (pa_cons (pe_ix (ixK K) (pe_ix (ixK K) (pv 0) pe_int (fun _ _ => rfl)) pe_int (fun _ _ => rfl)) pa_nil)))), ?_⟩
  have g0 : getD (walkD k w) 0 = some (stepsD k w) := getW0
  have g1 : getD (stepsD k w) 0 = some (rowD k (row w 0)) := getRow (s := 0) W.pos
  have g2 : itemsD (rowD k (row w 0)) = some ((row w 0).map (moveD k)) := sq_items _ _
  walk_at "E"
  rw [List.length_map, W.wid _ (row_mem W.pos)]
end
end L3
/-! W2: the walk of trail, played_on, played, steps_like, said_after. -/
namespace L3
open PySem PySem.Spec PyProof.Rows L2
local macro_rules | `(tactic| walk_at "E") => `(tactic| first
  | (with_reducible exact ev_int)
  | (with_reducible exact ev_bl)
  | (with_reducible exact ev_non)
  | ((with_reducible apply ev_v); exact rfl)
  | ((with_reducible apply eix) <;> walk_at "E")
  | ((with_reducible apply elen) <;> walk_at "E")
  | ((with_reducible apply etup) <;> walk_at "E")
  | ((with_reducible apply etupl) <;> walk_at "E")
  | ((with_reducible apply elst) <;> walk_at "E")
  | (with_reducible exact eva_nil)
  | ((with_reducible apply eva_cons) <;> walk_at "E")
  | ((with_reducible apply ev_I0i) <;> walk_at "E")
  | ((with_reducible apply ev_I0b) <;> walk_at "E")
  | ((with_reducible apply ev_Ii) <;> walk_at "E")
  | ((with_reducible apply ev_neg) <;> walk_at "E")
  | ((with_reducible apply ev_isi2) <;> walk_at "E")
  | ((with_reducible apply ev_isi) <;> walk_at "E")
  | ((with_reducible apply ev_int1) <;> walk_at "E")
  | ((with_reducible apply evt_test) <;> walk_at "E")
  | ((with_reducible apply evt_b) <;> walk_at "E")
  | ((with_reducible apply evt_not) <;> walk_at "E")
  | ((with_reducible apply ev_isN) <;> walk_at "E")
  | ((with_reducible apply ev_notN) <;> walk_at "E")
  | ((with_reducible apply ev_call) <;> walk_at "E")
  | ((with_reducible apply ev_eqD) <;> walk_at "E")
  | ((with_reducible apply ev_neD) <;> walk_at "E")
  | ((with_reducible apply elstM) <;> walk_at "E")
  | ((with_reducible apply ex_seq) <;> walk_at "E")
  | ((with_reducible apply ex_retE) <;> walk_at "E")
  | ((with_reducible apply ex_asg) <;> walk_at "E")
  | ((with_reducible apply ex_setD) <;> walk_at "E")
  | (with_reducible exact ex_next)
  | (with_reducible exact evg_name)
  | (with_reducible exact evgs_nil)
  | ((with_reducible apply evgs_cons) <;> walk_at "E")
  | ((with_reducible apply gseq) <;> walk_at "E")
  | ((with_reducible apply ev_slice) <;> walk_at "E")
  | (with_reducible exact evo_none)
  | ((with_reducible apply evo_some) <;> walk_at "E")
  | (show (_ : Prop); assumption)
  | exact rfl
  | skip)
local macro_rules | `(tactic| walk_at "V") => `(tactic| ((apply ev_to) <;> walk_at "E"))
section
variable {P : Program} {w : World} {K : PySem.W.Frag} {mg : Str → Option Value} {base : Heap}
/-! ### trail -/
def RTrail (ds : List PyData) (r : PyData) : Prop := ∃ (k k' : Bool) (w : Wk) (wide : Nat) (ring : List Nat) (room L f : Nat), WOk w wide ∧ ROk ring wide ∧ room < ring.length ∧ Cyc w ring room L f ∧ L ≤ 1000000 ∧
  ds = [walkD k w, ringD k' ring, .int (room : Int)] ∧ r = .tuple [.list (placesD w ring room L), .int (f : Int)]
theorem sc_trail : FnScope ["walker", "ring", "room", "places", "numbers", "later"] ["walker", "ring", "room"] (defScope (top 15)) := ⟨rfl, rfl, rfl, by decide +kernel, rfl, by decide +kernel, by decide +kernel⟩
theorem ok_trail (T : Tx mg) (F : Def K mg "trail" ["walker", "ring", "room"] (top 15)) (cstepped : Cal P w K mg base "stepped" ["walker", "ring", "place"] 1 (spD RStepped)) : Cal P w K mg base "trail" ["walker", "ring", "room"] 2 (spD RTrail) := by
  have sc := sc_trail
  refine def_ok F sc (fun ds r h => ?_) fun f cdv A outer s H E ds r hr h => ?_
  · obtain ⟨_, _, _, _, _, _, _, _, _, _, _, _, _, rfl, _⟩ := h
    rfl
  obtain ⟨k, k', w, wide, ring, room, L, f, W, R, hro, C, hL, rfl, rfl⟩ := h
  have hu := hu_of hr
  refine ⟨_, (pss_cons (ps_par (i := 3) (j := 4) rfl sc.nd rfl rfl (by decide) rfl rfl (pa_cons (pe_lst (pa_cons (pe_tup (pa_cons (pv 2) (pa_cons pe_int pa_nil))) pa_nil)) (pa_cons (pe_disp1T hu (pe_tup (pa_cons (pv 2) (pa_cons pe_int pa_nil))) pe_int) pa_nil)) (by rfl))
    (pss_one (ps_while PassesOwn.never (pt_val pe_bl)
      (pss_cons (ps_set (i := 5) sc.nd rfl (Or.inl rfl) (pe_cal cstepped (hr.mono (by decide)) rfl (pa_cons (pv 0) (pa_cons (pv 1) (pa_cons (pe_ix (ixK K) (pv 3) (pe_un un_neg pe_int) (fun _ _ => rfl)) pa_nil)))))
      (pss_cons (ps_if (pt_cmp (pc_din hu (pv 5) (pv 4)) rfl) (pss_one (ps_ret (pe_tup (pa_cons (pv 3) (pa_cons (pe_dget hu (pv 4) (pv 5) (fun _ _ => rfl)) pa_nil))))) pss_nil)
      (pss_cons (ps_dput hu (pv 4) (pv 5) (pe_callB (lenK K) rfl T.len PySem.boot_len (pa_cons (pv 3) pa_nil)) rfl)
      (pss_one (ps_expr (pe_bm PySem.F.plainAttrs_list PySem.F.slot_list_append PySem.F.type_list_append mt_append (pv 3) (pa_cons (pv 5) pa_nil)))))))))), ?_⟩
  have hL0 := C.lt
  -- places, numbers
  refine ex_seq (ex_par (s := .m [.tuple [.int (room : Int), .int 0]]) (s' := .q [([(room : Int), 0], 0)]) (by walk_at "E") (ev_disp1 (k := [(room : Int), 0]) (show EvD _ _ (.tuple [.int (room : Int), .int 0]) from by walk_at "E") ev_int)) ?_
  -- the loop: behind i turns
  refine ex_whileR (L - 1) (fun i => [.d (walkD k w), .d (ringD k' ring), .d (.int (room : Int)), .m (placesD w ring room (i + 1)), .q (numD w ring room (i + 1)), if i = 0 then .u else .d (posD (pos w ring room i))]) (fun i hi => evt_b ev_bl) (fun i hi => ?_) ?_
  · have hs : EvD (tCall (spD RStepped) [] E0 (tCons (tVar 0) (tCons (tVar 1) (tCons (tOp (rIx K) (tVar 3) (tUn (rU fun i => .int (-i)) (tC (.int 1)))) tNil)))) [.d (walkD k w), .d (ringD k' ring), .d (.int (room : Int)), .m (placesD w ring room (i + 1)), .q (numD w ring room (i + 1)), if i = 0 then .u else .d (posD (pos w ring room i))] (posD (pos w ring room (i + 1))) :=
      ev_call (eva_cons (ev_v rfl) (eva_cons (ev_v rfl) (eva_cons (ev_ixM rfl (ev_neg ev_int) (by rw [placesD_succ]; exact atI_end)) eva_nil))) ⟨k, k', w, wide, ring, pos w ring room i, W, R, pos_ok W R hro i, rfl, rfl⟩
    refine ex_seq (ex_setD hs) ?_
    refine ex_seq (ex_ifF (evt_b (b := false) ?_) ex_next) ?_
    · have h := ev_din (i := 4) (ty := tVar 5) (δ := [.d (walkD k w), .d (ringD k' ring), .d (.int (room : Int)), .m (placesD w ring room (i + 1)), .q (numD w ring room (i + 1)), .d (posD (pos w ring room (i + 1)))]) (k := keyAt w ring room (i + 1)) rfl (ev_v rfl)
      rw [C.fresh (by omega)] at h
      exact h
    refine ex_seq (ex_dput (i := 4) (k := keyAt w ring room (i + 1)) rfl (ev_lenM (i := 3) rfl) (ev_v rfl) (C.fresh (by omega)) (by rw [numD_length, sizeLine_eq]; omega)) ?_
    refine ex_to (ex_app (i := 3) rfl (ev_v rfl) (by rw [placesD_length, sizeLine_eq]; omega)) ?_
    show [_, _, _, Sl.m (placesD w ring room (i + 1) ++ [posD (pos w ring room (i + 1))]), Sl.q (numD w ring room (i + 1) ++ [(keyAt w ring room (i + 1), ((placesD w ring room (i + 1)).length : Int))]), _] = [_, _, _, _, _, _]
    rw [← placesD_succ, placesD_length, ← numD_succ, if_neg (Nat.succ_ne_zero i)]
  · have hs : EvD (tCall (spD RStepped) [] E0 (tCons (tVar 0) (tCons (tVar 1) (tCons (tOp (rIx K) (tVar 3) (tUn (rU fun i => .int (-i)) (tC (.int 1)))) tNil)))) [.d (walkD k w), .d (ringD k' ring), .d (.int (room : Int)), .m (placesD w ring room (L - 1 + 1)), .q (numD w ring room (L - 1 + 1)), if L - 1 = 0 then .u else .d (posD (pos w ring room (L - 1)))] (posD (pos w ring room (L - 1 + 1))) :=
      ev_call (eva_cons (ev_v rfl) (eva_cons (ev_v rfl) (eva_cons (ev_ixM rfl (ev_neg ev_int) (by rw [placesD_succ]; exact atI_end)) eva_nil))) ⟨k, k', w, wide, ring, pos w ring room (L - 1), W, R, pos_ok W R hro _, rfl, rfl⟩
    have eL : L - 1 + 1 = L := by omega
    rw [eL] at hs
    show Ex _ [.d (walkD k w), .d (ringD k' ring), .d (.int (room : Int)), .m (placesD w ring room (L - 1 + 1)), .q (numD w ring room (L - 1 + 1)), if L - 1 = 0 then .u else .d (posD (pos w ring room (L - 1)))] _
    rw [eL]
    refine ex_seq (ex_setD hs) ?_
    refine ex_seqR (ex_ifT (evt_b (b := true) ?_) ?_)
    · have h := ev_din (i := 4) (ty := tVar 5) (δ := [.d (walkD k w), .d (ringD k' ring), .d (.int (room : Int)), .m (placesD w ring room L), .q (numD w ring room L), .d (posD (pos w ring room L))]) (k := keyAt w ring room L) rfl (ev_v rfl)
      rw [C.again] at h
      exact h
    refine ex_frz (i := 3) rfl (ex_ret (etupl (eva_cons (ev_v rfl) (eva_cons (ev_dget (i := 4) (k := keyAt w ring room L) rfl (ev_v rfl) C.again) eva_nil)) rfl))
/-! ### played_on -/
def RPlayedOn (ds : List PyData) (r : PyData) : Prop := ∃ (k k' : Bool) (w : Wk) (wide : Nat) (ring : List Nat) (room n : Nat), WOk w wide ∧ ROk ring wide ∧ room < ring.length ∧ n ≤ 4000000 ∧
  ds = [walkD k w, ringD k' ring, .int (room : Int), .int (n : Int)] ∧ r = .list (rowsD w ring room n)
theorem sc_played_on : FnScope ["walker", "ring", "room", "steps", "place", "said", "found", "_"] ["walker", "ring", "room", "steps"] (defScope (top 17)) := ⟨rfl, rfl, rfl, by decide +kernel, rfl, by decide +kernel, by decide +kernel⟩
theorem ok_played_on (T : Tx mg) (F : Def K mg "played_on" ["walker", "ring", "room", "steps"] (top 17)) (cstepped : Cal P w K mg base "stepped" ["walker", "ring", "place"] 1 (spD RStepped)) (csaid_by : Cal P w K mg base "said_by" ["walker", "said", "state"] 1 (spD RSaidBy)) : Cal P w K mg base "played_on" ["walker", "ring", "room", "steps"] 2 (spD RPlayedOn) := by
  have sc := sc_played_on
  refine def_ok F sc (fun ds r h => ?_) fun f cdv A outer s H E ds r hr h => ?_
  · obtain ⟨_, _, _, _, _, _, _, _, _, _, _, rfl, _⟩ := h
    rfl
  obtain ⟨k, k', w, wide, ring, room, n, W, R, hro, hn, rfl, rfl⟩ := h
  refine ⟨_, (pss_cons (ps_par3 (i := 4) (j := 5) (l := 6) rfl sc.nd rfl rfl rfl (by decide) (by decide) (by decide) rfl rfl rfl (pa_cons (pe_tup (pa_cons (pv 2) (pa_cons pe_int pa_nil))) (pa_cons pe_non (pa_cons (pe_lst pa_nil) pa_nil))) (by rfl))
    (pss_cons (ps_for PassesOwn.never rfl (pi_range1 rfl T.range (pa_cons (pv 3) pa_nil)) (pg_name (i := 7) sc.nd rfl (Or.inl rfl))
      (pss_cons (ps_set (i := 4) sc.nd rfl (Or.inl rfl) (pe_cal cstepped (hr.mono (by decide)) rfl (pa_cons (pv 0) (pa_cons (pv 1) (pa_cons (pv 4) pa_nil)))))
      (pss_cons (ps_set (i := 5) sc.nd rfl (Or.inl rfl) (pe_cal csaid_by (hr.mono (by decide)) rfl (pa_cons (pv 0) (pa_cons (pv 5) (pa_cons (pe_ix (ixK K) (pv 4) pe_int (fun _ _ => rfl)) pa_nil)))))
      (pss_one (ps_expr (pe_bm PySem.F.plainAttrs_list PySem.F.slot_list_append PySem.F.type_list_append mt_append (pv 6) (pa_cons (pe_tup (pa_cons (pe_ix (ixK K) (pv 4) pe_int (fun _ _ => rfl)) (pa_cons (pe_ix (ixK K) (pv 4) pe_int (fun _ _ => rfl)) (pa_cons (pv 5) pa_nil)))) pa_nil)))))))
    (pss_one (ps_ret (pv 6))))), ?_⟩
  refine ex_seq (ex_par3 (s := .d (posD (pos w ring room 0))) (s' := .d (sayD (saidAt w ring room 0))) (s'' := .m []) (show EvD _ _ (.tuple [.int (room : Int), .int 0]) from by walk_at "E") ev_non (elstM eva_nil rfl)) ?_
  refine ex_seq (ex_to (ex_for (fun i => [.d (walkD k w), .d (ringD k' ring), .d (.int (room : Int)), .d (.int (n : Int)), .d (posD (pos w ring room i)), .d (sayD (saidAt w ring room i)), .m (rowsD w ring room i), if i = 0 then .u else .d (.int ((i - 1 : Nat) : Int))]) (evi_range (eva_cons (ev_v rfl) eva_nil) (by omega) (by omega)) fun i d hd => ?_) rfl) (ex_retM (i := 6) ?_)
  · rw [List.getElem?_map] at hd
    have hi : i < n := by
      by_cases q : i < (n : Int).toNat
      · omega
      · rw [List.getElem?_eq_none (by rw [List.length_range]; omega)] at hd
        cases hd
    rw [List.getElem?_range (by omega)] at hd
    cases hd
    refine ⟨_, _, evg_name, ?_⟩
    have hp := pos_ok W R hro i
    have hp1 := pos_ok W R hro (i + 1)
    refine ex_seq (ex_setD (x := posD (pos w ring room (i + 1))) (ev_call (eva_cons (ev_v rfl) (eva_cons (ev_v rfl) (eva_cons (ev_v rfl) eva_nil))) ⟨k, k', w, wide, ring, pos w ring room i, W, R, hp, rfl, rfl⟩)) ?_
    refine ex_seq (ex_setD (x := sayD (saidAt w ring room (i + 1))) (ev_call (eva_cons (ev_v rfl) (eva_cons (ev_v rfl) (eva_cons (x := .int ((pos w ring room (i + 1)).2 : Int)) (eix (ev_v rfl) ev_int rfl) eva_nil))) ⟨k, w, saidAt w ring room i, (pos w ring room (i + 1)).2, by rw [W.len]; exact hp1.2, rfl, rfl⟩)) ?_
    refine ex_to (ex_app (i := 6) (x := triAt w ring room (i + 1)) rfl (etupl (eva_cons (eix (ev_v rfl) ev_int rfl) (eva_cons (eix (ev_v rfl) ev_int rfl) (eva_cons (ev_v rfl) eva_nil))) rfl) (by rw [rowsD_length, sizeLine_eq]; omega)) ?_
    show [_, _, _, _, _, _, Sl.m (rowsD w ring room i ++ [triAt w ring room (i + 1)]), _] = [_, _, _, _, _, _, _, _]
    rw [← rowsD_succ, if_neg (Nat.succ_ne_zero i)]
    rfl
  · rw [List.length_map, List.length_range, Int.toNat_natCast]
    rfl
/-! ### played -/
def RPlayed (ds : List PyData) (r : PyData) : Prop := ∃ (k k' : Bool) (w : Wk) (wide : Nat) (ring : List Nat) (room n : Nat), WOk w wide ∧ ROk ring wide ∧ room < ring.length ∧ n ≤ 4000000 ∧
  ds = [walkD k w, ringD k' ring, .int (room : Int), .int (n : Int)] ∧ r = .tuple (rowsD w ring room n)
theorem sc_played : FnScope ["walker", "ring", "room", "steps"] ["walker", "ring", "room", "steps"] (defScope (top 18)) := ⟨rfl, rfl, rfl, by decide +kernel, rfl, by decide +kernel, by decide +kernel⟩
theorem ok_played (T : Tx mg) (F : Def K mg "played" ["walker", "ring", "room", "steps"] (top 18)) (csure_room : Cal P w K mg base "sure_room" ["ring", "room"] 1 (spD RSureRoom)) (cplayed_on : Cal P w K mg base "played_on" ["walker", "ring", "room", "steps"] 2 (spD RPlayedOn)) : Cal P w K mg base "played" ["walker", "ring", "room", "steps"] 3 (spD RPlayed) := by
  have sc := sc_played
  refine def_ok F sc (fun ds r h => ?_) fun f cdv A outer s H E ds r hr h => ?_
  · obtain ⟨_, _, _, _, _, _, _, _, _, _, _, rfl, _⟩ := h
    rfl
  obtain ⟨k, k', w, wide, ring, room, n, W, R, hro, hn, rfl, rfl⟩ := h
  refine ⟨_, (pss_cons (ps_expr (pe_cal csure_room (hr.mono (by decide)) rfl (pa_cons (pv 1) (pa_cons (pv 2) pa_nil))))
    (pss_one (ps_ret (pe_callTy (tupK K) rfl T.tuple PyProof.Rows.boot_tuple (pa_cons (pe_cal cplayed_on (hr.mono (by decide)) rfl (pa_cons (pv 0) (pa_cons (pv 1) (pa_cons (pv 2) (pa_cons (pv 3) pa_nil))))) pa_nil))))), ?_⟩
  refine ex_seq (ex_drop (s := .d .none) (ev_call (eva_cons (ev_v rfl) (eva_cons (ev_v rfl) eva_nil)) ⟨k', ring, room, hro, rfl, rfl⟩)) ?_
  exact ex_ret (etup (y := .list (rowsD w ring room n)) (ev_call (eva_cons (ev_v rfl) (eva_cons (ev_v rfl) (eva_cons (ev_v rfl) (eva_cons (ev_v rfl) eva_nil)))) ⟨k, k', w, wide, ring, room, n, W, R, hro, hn, rfl, rfl⟩) rfl)
/-! ### steps_like -/
def RStepsLike (ds : List PyData) (r : PyData) : Prop := ∃ (k k' : Bool) (w : Wk) (wide : Nat) (ring : List Nat) (room n L f : Nat), WOk w wide ∧ ROk ring wide ∧ room < ring.length ∧ Cyc w ring room L f ∧ L ≤ 1000000 ∧
  ds = [walkD k w, ringD k' ring, .int (room : Int), .int (n : Int)] ∧ r = .int (near L f n : Nat)
theorem sc_steps_like : FnScope ["walker", "ring", "room", "steps", "places", "first", "around", "most"] ["walker", "ring", "room", "steps"] (defScope (top 19)) := ⟨rfl, rfl, rfl, by decide +kernel, rfl, by decide +kernel, by decide +kernel⟩
theorem ok_steps_like (T : Tx mg) (F : Def K mg "steps_like" ["walker", "ring", "room", "steps"] (top 19)) (ctrail : Cal P w K mg base "trail" ["walker", "ring", "room"] 2 (spD RTrail)) : Cal P w K mg base "steps_like" ["walker", "ring", "room", "steps"] 3 (spD RStepsLike) := by
  have sc := sc_steps_like
  refine def_ok F sc (fun ds r h => ?_) fun f cdv A outer s H E ds r hr h => ?_
  · obtain ⟨_, _, _, _, _, _, _, _, _, _, _, _, _, _, rfl, _⟩ := h
    rfl
  obtain ⟨k, k', w, wide, ring, room, n, L, f, W, R, hro, C, hL, rfl, rfl⟩ := h
  refine ⟨_, (pss_cons (ps_asg (pe_cal ctrail (hr.mono (by decide)) rfl (pa_cons (pv 0) (pa_cons (pv 1) (pa_cons (pv 2) pa_nil)))) (pg_seqK K 2 rfl (pgs_cons (pg_name (i := 4) sc.nd rfl (Or.inl rfl)) (pgs_cons (pg_name (i := 5) sc.nd rfl (Or.inl rfl)) pgs_nil))))
    (pss_cons (ps_set (i := 6) sc.nd rfl (Or.inl rfl) (pe_op op_sub (pe_callB (lenK K) rfl T.len PySem.boot_len (pa_cons (pv 4) pa_nil)) (pv 5)))
    (pss_cons (ps_set (i := 7) sc.nd rfl (Or.inl rfl) (pe_op op_add (pe_callB (lenK K) rfl T.len PySem.boot_len (pa_cons (pv 4) pa_nil)) (pv 6)))
    (pss_one (ps_ret (pe_ifExp (pt_cmpR op_lt (pv 3) (pv 7) (nomark _)) (pv 3) (pe_op op_add (pv 7) (pe_op op_mod (pe_op op_sub (pv 3) (pv 7)) (pv 6))))))))), ?_⟩
  have hf := C.lt
  refine ex_seq (ex_asg (x := .tuple [.list (placesD w ring room L), .int (f : Int)]) (ev_call (eva_cons (ev_v rfl) (eva_cons (ev_v rfl) (eva_cons (ev_v rfl) eva_nil))) ⟨k, k', w, wide, ring, room, L, f, W, R, hro, C, hL, rfl, rfl⟩) (gseq (two_ _ _) (evgs_cons evg_name (evgs_cons evg_name evgs_nil)) rfl)) ?_
  refine ex_seq (ex_setD (x := .int ((L - f : Nat) : Int)) (ev_to (ev_I0i (elen (ev_v rfl) rfl) (ev_v rfl)) ?_)) ?_
  · rw [placesD_length]
    exact congrArg PyData.int (by omega)
  refine ex_seq (ex_setD (x := .int ((2 * L - f : Nat) : Int)) (ev_to (ev_I0i (elen (ev_v rfl) rfl) (ev_v rfl)) ?_)) ?_
  · rw [placesD_length]
    exact congrArg PyData.int (by omega)
  refine ex_ret (ev_if (b := decide ((n : Int) < ((2 * L - f : Nat) : Int))) (evt_test (ev_I0b (ev_v rfl) (ev_v rfl))) (fun e => ?_) fun e => ?_)
  · have e' := of_decide_eq_true e
    have en : near L f n = n := by
      unfold near
      rw [if_pos (by omega)]
    rw [en]
    exact ev_v rfl
  · have e' := of_decide_eq_false e
    have en : near L f n = 2 * L - f + (n - (2 * L - f)) % (L - f) := by
      unfold near
      rw [if_neg (by omega)]
    refine ev_to (ev_I0i (ev_v rfl) (ev_Ii (ev_I0i (ev_v rfl) (ev_v rfl)) (ev_v rfl) (show (0 : Int) < ((L - f : Nat) : Int) by omega))) ?_
    rw [en]
    refine congrArg PyData.int ?_
    rw [Int.natCast_add, Int.natCast_emod, show ((n - (2 * L - f) : Nat) : Int) = (n : Int) - ((2 * L - f : Nat) : Int) by omega]
/-! ### said_after -/
def RSaidAfter (ds : List PyData) (r : PyData) : Prop := ∃ (k k' : Bool) (w : Wk) (wide : Nat) (ring : List Nat) (room n L f : Nat), WOk w wide ∧ ROk ring wide ∧ room < ring.length ∧ Cyc w ring room L f ∧ L ≤ 1000000 ∧
  ds = [walkD k w, ringD k' ring, .int (room : Int), .int (n : Int)] ∧ r = sayD (saidAt w ring room (near L f n))
theorem sc_said_after : FnScope ["walker", "ring", "room", "steps", "said", "own"] ["walker", "ring", "room", "steps"] (defScope (top 20)) := ⟨rfl, rfl, rfl, by decide +kernel, rfl, by decide +kernel, by decide +kernel⟩
theorem ok_said_after (T : Tx mg) (F : Def K mg "said_after" ["walker", "ring", "room", "steps"] (top 20)) (csure_room : Cal P w K mg base "sure_room" ["ring", "room"] 1 (spD RSureRoom)) (cplayed_on : Cal P w K mg base "played_on" ["walker", "ring", "room", "steps"] 2 (spD RPlayedOn))
    (csteps_like : Cal P w K mg base "steps_like" ["walker", "ring", "room", "steps"] 3 (spD RStepsLike)) : Cal P w K mg base "said_after" ["walker", "ring", "room", "steps"] 4 (spD RSaidAfter) := by
  have sc := sc_said_after
  refine def_ok F sc (fun ds r h => ?_) fun f cdv A outer s H E ds r hr h => ?_
  · obtain ⟨_, _, _, _, _, _, _, _, _, _, _, _, _, _, rfl, _⟩ := h
    rfl
  obtain ⟨k, k', w, wide, ring, room, n, L, f, W, R, hro, C, hL, rfl, rfl⟩ := h
  refine ⟨_, (pss_cons (ps_expr (pe_cal csure_room (hr.mono (by decide)) rfl (pa_cons (pv 1) (pa_cons (pv 2) pa_nil))))
    (pss_cons (ps_setLc (i := 4) (own := [("own", 5)]) rfl sc.nd rfl rfl (sw_true rfl rfl rfl (by rfl)) (pi_seqK K (pe_cal cplayed_on (hr.mono (by decide)) rfl (pa_cons (pv 0) (pa_cons (pv 1) (pa_cons (pv 2) (pa_cons (pe_cal csteps_like (hr.mono (by decide)) rfl (pa_cons (pv 0) (pa_cons (pv 1) (pa_cons (pv 2) (pa_cons (pv 3) pa_nil))))) pa_nil)))))) (blkOk_by (by rfl)) (fun _ _ _ _ _ => (pg_name (i := 5) sc.nd rfl (Or.inl rfl))) (fun _ _ _ _ _ => pts_nil) (fun _ _ _ _ _ => (pe_ix (ixK K) (pv 5) pe_int (fun _ _ => rfl))))
    (pss_one (ps_ret (pe_ifExp (pt_cmpR (neK K hr.units) (pv 4) (pe_lst pa_nil) (nomark _)) (pe_ix (ixK K) (pv 4) (pe_un un_neg pe_int) (fun _ _ => rfl)) pe_non))))), ?_⟩
  have hnear := near_lt (n := n) C.lt
  refine ex_seq (ex_drop (s := .d .none) (ev_call (eva_cons (ev_v rfl) (eva_cons (ev_v rfl) eva_nil)) ⟨k', ring, room, hro, rfl, rfl⟩)) ?_
  refine ex_seq (ex_setD (x := .list (saidsD w ring room (near L f n))) (ev_lc _ (iseq (y := .list (rowsD w ring room (near L f n))) (ev_call (eva_cons (ev_v rfl) (eva_cons (ev_v rfl) (eva_cons (ev_v rfl) (eva_cons (x := .int (near L f n : Nat)) (ev_call (eva_cons (ev_v rfl) (eva_cons (ev_v rfl) (eva_cons (ev_v rfl) (eva_cons (ev_v rfl) eva_nil)))) ⟨k, k', w, wide, ring, room, n, L, f, W, R, hro, C, hL, rfl, rfl⟩) eva_nil)))) ⟨k, k', w, wide, ring, room, near L f n, W, R, hro, by omega, rfl, rfl⟩) rfl) (by rw [saidsD_length, rowsD_length]) (by rw [rowsD_length]; exact line_of (by omega)) fun i d e hd he => ⟨_, _, evg_name, fun j h => h, eix (ev_v rfl) ev_int (third hd he)⟩)) ?_
  refine ex_ret ?_
  have hne := ev_neD (K := K) (ta := tVar 4) (tb := tLst tNil) (δ := ((stD ["walker", "ring", "room", "steps", "said", "own"] [walkD k w, ringD k' ring, .int (room : Int), .int (n : Int)]).set 4 (.d (.list (saidsD w ring room (near L f n)))))) (ev_v rfl) (elst eva_nil rfl) (saidsD_ok.shaped (by decide)) (by decide +kernel)
  refine ev_if (evt_test hne) (fun e => ?_) fun e => ?_
  · cases hm : near L f n with
    | zero => rw [hm] at e; cases e
    | succ m => exact eix (ev_v rfl) (ev_neg ev_int) (by rw [saidsD_succ]; exact atI_end)
  · cases hm : near L f n with
    | zero => exact ev_non
    | succ m =>
      rw [hm, saidsD_succ] at e
      cases hs : saidsD w ring room m with
      | nil => rw [hs] at e; cases e
      | cons a b => rw [hs] at e; cases e
end
end L3
/-! W3: the walk of changes, words, and of the law's own play, again, far, words. -/
namespace L3
open PySem PySem.Spec PyProof.Rows L2
local macro_rules | `(tactic| walk_at "E") => `(tactic| first
  | (with_reducible exact ev_int)
  | (with_reducible exact ev_bl)
  | (with_reducible exact ev_non)
  | ((with_reducible apply ev_v); exact rfl)
  | ((with_reducible apply eix) <;> walk_at "E")
  | ((with_reducible apply elen) <;> walk_at "E")
  | ((with_reducible apply etup) <;> walk_at "E")
  | ((with_reducible apply etupl) <;> walk_at "E")
  | ((with_reducible apply elst) <;> walk_at "E")
  | (with_reducible exact eva_nil)
  | ((with_reducible apply eva_cons) <;> walk_at "E")
  | ((with_reducible apply ev_I0i) <;> walk_at "E")
  | ((with_reducible apply ev_I0b) <;> walk_at "E")
  | ((with_reducible apply ev_Ii) <;> walk_at "E")
  | ((with_reducible apply ev_neg) <;> walk_at "E")
  | ((with_reducible apply ev_isi2) <;> walk_at "E")
  | ((with_reducible apply ev_isi) <;> walk_at "E")
  | ((with_reducible apply ev_int1) <;> walk_at "E")
  | ((with_reducible apply evt_test) <;> walk_at "E")
  | ((with_reducible apply evt_b) <;> walk_at "E")
  | ((with_reducible apply evt_not) <;> walk_at "E")
  | ((with_reducible apply ev_isN) <;> walk_at "E")
  | ((with_reducible apply ev_notN) <;> walk_at "E")
  | ((with_reducible apply ev_call) <;> walk_at "E")
  | ((with_reducible apply ev_eqD) <;> walk_at "E")
  | ((with_reducible apply ev_neD) <;> walk_at "E")
  | ((with_reducible apply elstM) <;> walk_at "E")
  | ((with_reducible apply ex_seq) <;> walk_at "E")
  | ((with_reducible apply ex_retE) <;> walk_at "E")
  | ((with_reducible apply ex_asg) <;> walk_at "E")
  | ((with_reducible apply ex_setD) <;> walk_at "E")
  | (with_reducible exact ex_next)
  | (with_reducible exact evg_name)
  | (with_reducible exact evgs_nil)
  | ((with_reducible apply evgs_cons) <;> walk_at "E")
  | ((with_reducible apply gseq) <;> walk_at "E")
  | ((with_reducible apply ev_slice) <;> walk_at "E")
  | (with_reducible exact evo_none)
  | ((with_reducible apply evo_some) <;> walk_at "E")
  | (show (_ : Prop); assumption)
  | exact rfl
  | skip)
local macro_rules | `(tactic| walk_at "V") => `(tactic| ((apply ev_to) <;> walk_at "E"))
def saidL (s : Nat → Option Int) (n : Nat) : List PyData := (List.range n).map fun i => sayD (s i)
theorem saidL_length {s : Nat → Option Int} {n : Nat} : (saidL s n).length = n := by unfold saidL; rw [List.length_map, List.length_range]
theorem saidL_get {s : Nat → Option Int} {n i : Nat} (h : i < n) : (saidL s n)[i]? = some (sayD (s i)) := by
  unfold saidL
  rw [List.getElem?_map, List.getElem?_range h]
  rfl
section
variable {P : Program} {w : World} {K : PySem.W.Frag} {mg : Str → Option Value} {base : Heap}
/-! ### changes -/
def RChanges (ds : List PyData) (r : PyData) : Prop := ∃ (s : Nat → Option Int) (n : Nat), n ≤ 4000000 ∧ ds = [.list (saidL s n)] ∧ r = .list ((chgF s n).map fun (i : Nat) => PyData.int (i : Int))
theorem sc_changes : FnScope ["said", "number", "own"] ["said"] (defScope (top 21)) := ⟨rfl, rfl, rfl, by decide +kernel, rfl, by decide +kernel, by decide +kernel⟩
theorem ok_changes (T : Tx mg) (F : Def K mg "changes" ["said"] (top 21)) : Cal P w K mg base "changes" ["said"] 1 (spD RChanges) := by
  have sc := sc_changes
  refine def_ok F sc (fun ds r h => ?_) fun f cdv A outer s H E ds r hr h => ?_
  · obtain ⟨_, _, _, rfl, _⟩ := h
    rfl
  obtain ⟨s, n, hn, rfl, rfl⟩ := h
  refine ⟨_, (pss_one (ps_ret (pe_lc (own := [("number", 1), ("own", 2)]) rfl sc.nd (pi_enumK K rfl T.enumerate (pa_cons (pv 0) pa_nil)) (blkOk_by (by rfl)) (fun _ _ _ _ _ => (pg_seqK K 2 rfl (pgs_cons (pg_name (i := 1) sc.nd rfl (Or.inl rfl)) (pgs_cons (pg_name (i := 2) sc.nd rfl (Or.inl rfl)) pgs_nil)))) (fun _ _ _ _ _ => (pts_one (pt_cmpR (neK K hr.units) (pv 2) (pe_ifExp (pt_cmpR op_gt (pv 1) pe_int (nomark _)) (pe_ix (ixK K) (pv 0) (pe_op op_sub (pv 1) pe_int) (fun _ _ => rfl)) pe_non) (nomark _)))) (fun _ _ _ _ _ => (pv 1))))), ?_⟩
  refine ex_ret ?_
  rw [← chg_keep]
  have hlen : ((saidL s n).mapIdx fun i d => PyData.tuple [.int (i : Int), d]).length = n := by rw [List.length_mapIdx, saidL_length]
  refine ev_lcO _ (evi_enum (eva_cons (ev_v rfl) eva_nil)) (by rw [hlen, List.length_map, List.length_range]) (by rw [hlen]; exact line_of hn) fun i d r hd hr' => ?_
  have hi : i < n := by
    have h1 := (List.getElem?_eq_some_iff.mp hd).1
    rw [hlen] at h1
    exact h1
  rw [List.getElem?_mapIdx, saidL_get hi] at hd
  rw [List.getElem?_map, List.getElem?_range hi] at hr'
  cases hd
  cases hr'
  refine ⟨_, _, gseq (two_ _ _) (evgs_cons evg_name (evgs_cons evg_name evgs_nil)) rfl, fun j h => h, evt_to (evt_test (ev_neD (x := sayD (s i)) (y := sayD (prevAt s i)) (ev_v rfl) (ev_if (b := decide ((0 : Int) < (i : Int))) (evt_test (ev_I0b (g := fun i j => decide (j < i)) (ev_v rfl) ev_int)) (fun e => ?_) fun e => ?_) (okD_say.shaped (by decide)) (okD_say.shaped (by decide)))) ?_, fun e he => ?_⟩
  · have e' := of_decide_eq_true e
    unfold prevAt
    rw [if_pos (by omega)]
    refine eix (y := .list (saidL s n)) (ev_v rfl) (ev_I0i (ev_v rfl) ev_int) ?_
    rw [show ((i : Int) - 1) = ((i - 1 : Nat) : Int) by omega]
    exact getD_nat (k := true) (saidL_get (by omega))
  · have e' := of_decide_eq_false e
    unfold prevAt
    rw [if_neg (by omega)]
    exact ev_non
  · rw [eqv_say]
    show (!decide (s i = prevAt s i)) = Option.isSome (if s i = prevAt s i then (none : Option PyData) else some (.int (i : Int)))
    by_cases q : s i = prevAt s i
    · rw [if_pos q, decide_eq_true q]; rfl
    · rw [if_neg q, decide_eq_false q]; rfl
  · have he' : (if s i = prevAt s i then (none : Option PyData) else some (.int (i : Int))) = some e := he
    by_cases q : s i = prevAt s i
    · rw [if_pos q] at he'; cases he'
    · rw [if_neg q] at he'
      cases he'
      exact ev_v rfl
/-! ### words -/
def RWords (ds : List PyData) (r : PyData) : Prop := ∃ (k k' : Bool) (w : Wk) (wide : Nat) (ring : List Nat) (room n : Nat), WOk w wide ∧ ROk ring wide ∧ room < ring.length ∧ n ≤ 4000000 ∧
  ds = [walkD k w, ringD k' ring, .int (room : Int), .int (n : Int)] ∧ r = .tuple ((wordsF (fun i => saidAt w ring room (i + 1)) n).map sayD)
theorem sc_words : FnScope ["walker", "ring", "room", "steps", "said", "own", "number"] ["walker", "ring", "room", "steps"] (defScope (top 22)) := ⟨rfl, rfl, rfl, by decide +kernel, rfl, by decide +kernel, by decide +kernel⟩
theorem ok_words (T : Tx mg) (F : Def K mg "words" ["walker", "ring", "room", "steps"] (top 22)) (cplayed : Cal P w K mg base "played" ["walker", "ring", "room", "steps"] 3 (spD RPlayed)) (cchanges : Cal P w K mg base "changes" ["said"] 1 (spD RChanges)) : Cal P w K mg base "words" ["walker", "ring", "room", "steps"] 4 (spD RWords) := by
  have sc := sc_words
  refine def_ok F sc (fun ds r h => ?_) fun f cdv A outer s H E ds r hr h => ?_
  · obtain ⟨_, _, _, _, _, _, _, _, _, _, _, rfl, _⟩ := h
    rfl
  obtain ⟨k, k', w, wide, ring, room, n, W, R, hro, hn, rfl, rfl⟩ := h
  refine ⟨_, (pss_cons (ps_set (i := 4) sc.nd rfl (Or.inr rfl) (pe_lc (own := [("own", 5)]) rfl sc.nd (pi_seqK K (pe_cal cplayed (hr.mono (by decide)) rfl (pa_cons (pv 0) (pa_cons (pv 1) (pa_cons (pv 2) (pa_cons (pv 3) pa_nil)))))) (blkOk_by (by rfl)) (fun _ _ _ _ _ => (pg_name (i := 5) sc.nd rfl (Or.inl rfl))) (fun _ _ _ _ _ => pts_nil) (fun _ _ _ _ _ => (pe_ix (ixK K) (pv 5) pe_int (fun _ _ => rfl)))))
    (pss_one (ps_ret (pe_callTy (tupK K) rfl T.tuple PyProof.Rows.boot_tuple (pa_cons (pe_lc (own := [("number", 6)]) rfl sc.nd (pi_seqK K (pe_cal cchanges (hr.mono (by decide)) rfl (pa_cons (pv 4) pa_nil))) (blkOk_by (by rfl)) (fun _ _ _ _ _ => (pg_name (i := 6) sc.nd rfl (Or.inl rfl))) (fun _ _ _ _ _ => pts_nil) (fun _ _ _ _ _ => (pe_ix (ixK K) (pv 4) (pv 6) (fun _ _ => rfl)))) pa_nil))))), ?_⟩
  refine ex_seq (ex_setD (x := .list (saidL (fun i => saidAt w ring room (i + 1)) n)) (ev_lc _ (iseq (y := .tuple (rowsD w ring room n)) (ev_call (eva_cons (ev_v rfl) (eva_cons (ev_v rfl) (eva_cons (ev_v rfl) (eva_cons (ev_v rfl) eva_nil)))) ⟨k, k', w, wide, ring, room, n, W, R, hro, hn, rfl, rfl⟩) rfl) (by rw [saidL_length, rowsD_length]) (by rw [rowsD_length]; exact line_of hn) fun i d e hd he => ⟨_, _, evg_name, fun j h => h, eix (ev_v rfl) ev_int (third hd he)⟩)) ?_
  rw [words_chg, List.map_map]
  refine ex_ret (etup (y := .list _) (ev_lc _ (iseq (y := .list _) (ev_call (eva_cons (ev_v rfl) eva_nil) ⟨_, n, hn, rfl, rfl⟩) rfl) (by rw [List.length_map, List.length_map]) (by rw [List.length_map]; exact line_of (Nat.le_trans (chg_length _ _) hn)) fun i d e hd he => ?_) rfl)
  rw [List.getElem?_map] at hd he
  cases hj : (chgF (fun i => saidAt w ring room (i + 1)) n)[i]? with
  | none => rw [hj] at hd; cases hd
  | some j =>
    rw [hj] at hd he
    cases hd
    cases he
    have hlt := chg_lt _ n j (List.mem_of_getElem? hj)
    exact ⟨_, _, evg_name, fun j h => h, eix (y := .list (saidL (fun i => saidAt w ring room (i + 1)) n)) (ev_v rfl) (ev_v rfl) (getD_nat (k := true) (saidL_get hlt))⟩
/-! ### _law_play -/
def RLPlay (ds : List PyData) (r : PyData) : Prop := ∃ (k k' : Bool) (w : Wk) (wide : Nat) (ring : List Nat) (room n : Nat), WOk w wide ∧ ROk ring wide ∧ room < ring.length ∧ n ≤ 4000000 ∧
  ds = [walkD k w, ringD k' ring, .int (room : Int), .int (n : Int)] ∧ r = .list (rowsD w ring room n)
theorem sc__law_play : FnScope ["_law_walker_here", "_law_ring_here", "_law_room", "_law_many", "_law_state", "_law_said", "_law_found", "_law_lap", "_law_way"] ["_law_walker_here", "_law_ring_here", "_law_room", "_law_many"] (defScope (top 32)) := ⟨rfl, rfl, rfl, by decide +kernel, rfl, by decide +kernel, by decide +kernel⟩
theorem ok__law_play (T : Tx mg) (F : Def K mg "_law_play" ["_law_walker_here", "_law_ring_here", "_law_room", "_law_many"] (top 32)) : Cal P w K mg base "_law_play" ["_law_walker_here", "_law_ring_here", "_law_room", "_law_many"] 1 (spD RLPlay) := by
  have sc := sc__law_play
  refine def_ok F sc (fun ds r h => ?_) fun f cdv A outer s H E ds r hr h => ?_
  · obtain ⟨_, _, _, _, _, _, _, _, _, _, _, rfl, _⟩ := h
    rfl
  obtain ⟨k, k', w, wide, ring, room, n, W, R, hro, hn, rfl, rfl⟩ := h
  refine ⟨_, (pss_cons (ps_par3 (i := 4) (j := 5) (l := 6) rfl sc.nd rfl rfl rfl (by decide) (by decide) (by decide) rfl rfl rfl (pa_cons pe_int (pa_cons pe_non (pa_cons (pe_lst pa_nil) pa_nil))) (by rfl))
    (pss_cons (ps_for PassesOwn.never rfl (pi_range1 rfl T.range (pa_cons (pv 3) pa_nil)) (pg_name (i := 7) sc.nd rfl (Or.inl rfl))
      (pss_cons (ps_asg (pe_ix (ixK K) (pe_ix (ixK K) (pe_ix (ixK K) (pv 0) pe_int (fun _ _ => rfl)) (pv 4) (fun _ _ => rfl)) (pe_op op_sub (pe_ix (ixK K) (pv 1) (pv 2) (fun _ _ => rfl)) pe_int) (fun _ _ => rfl)) (pg_seqK K 2 rfl (pgs_cons (pg_name (i := 4) sc.nd rfl (Or.inl rfl)) (pgs_cons (pg_name (i := 8) sc.nd rfl (Or.inl rfl)) pgs_nil))))
      (pss_cons (ps_set (i := 2) sc.nd rfl (Or.inl rfl) (pe_op op_mod (pe_callTy call_intX rfl T.int PyProof.Rows.boot_int (pa_cons (pe_op op_add (pv 2) (pv 8)) pa_nil)) (pe_callB (lenK K) rfl T.len PySem.boot_len (pa_cons (pv 1) pa_nil))))
      (pss_cons (ps_set (i := 5) sc.nd rfl (Or.inl rfl) (pe_ifExp (pt_cmp (pc_isN (pe_ix (ixK K) (pe_ix (ixK K) (pv 0) pe_int (fun _ _ => rfl)) (pv 4) (fun _ _ => rfl))) rfl) (pv 5) (pe_ix (ixK K) (pe_ix (ixK K) (pv 0) pe_int (fun _ _ => rfl)) (pv 4) (fun _ _ => rfl))))
      (pss_one (ps_expr (pe_bm PySem.F.plainAttrs_list PySem.F.slot_list_append PySem.F.type_list_append mt_append (pv 6) (pa_cons (pe_tup (pa_cons (pv 2) (pa_cons (pv 4) (pa_cons (pv 5) pa_nil)))) pa_nil))))))))
    (pss_one (ps_ret (pv 6))))), ?_⟩
  refine ex_seq (ex_par3 (s := .d (.int 0)) (s' := .d (sayD (saidAt w ring room 0))) (s'' := .m []) ev_int ev_non (elstM eva_nil rfl)) ?_
  refine ex_seq (ex_to (ex_for (fun i => [.d (walkD k w), .d (ringD k' ring), .d (.int ((pos w ring room i).1 : Int)), .d (.int (n : Int)), .d (.int ((pos w ring room i).2 : Int)), .d (sayD (saidAt w ring room i)), .m (rowsD w ring room i), if i = 0 then .u else .d (.int ((i - 1 : Nat) : Int)), if i = 0 then .u else .d (.int (mv w (pos w ring room (i - 1)).2 (lt_ ring (pos w ring room (i - 1)).1)).2)]) (evi_range (eva_cons (ev_v rfl) eva_nil) (by omega) (by omega)) fun i d hd => ?_) rfl) (ex_retM (i := 6) ?_)
  · rw [List.getElem?_map] at hd
    have hi : i < n := by
      by_cases q : i < (n : Int).toNat
      · omega
      · rw [List.getElem?_eq_none (by rw [List.length_range]; omega)] at hd
        cases hd
    rw [List.getElem?_range (by omega)] at hd
    cases hd
    refine ⟨_, _, evg_name, ?_⟩
    have hp := pos_ok W R hro i
    have hp1 := pos_ok W R hro (i + 1)
    obtain ⟨l1, l2⟩ := let_ok R hp.1
    have g0 : getD (walkD k w) 0 = some (stepsD k w) := getW0
    have g1 : getD (stepsD k w) ((pos w ring room i).2 : Int) = some (rowD k (row w (pos w ring room i).2)) := getRow hp.2
    have g2 : getD (ringD k' ring) ((pos w ring room i).1 : Int) = some (.int (lt_ ring (pos w ring room i).1 : Nat)) := getLet hp.1
    have g3 := getMove (k := k) W hp.2 l1 l2
    have g4 := itMove (k := k) (m := mv w (pos w ring room i).2 (lt_ ring (pos w ring room i).1))
    have g5 := itRing (k := k') (r := ring)
    have g6 : getD (walkD k w) 1 = some (saysD k w) := getW1
    have g7 : getD (saysD k w) ((pos w ring room (i + 1)).2 : Int) = some (sayD (w.says.getD (pos w ring room (i + 1)).2 none)) := getSay (by rw [W.len]; exact hp1.2)
    refine ex_seq (ex_asg (x := moveD k (mv w (pos w ring room i).2 (lt_ ring (pos w ring room i).1))) (by walk_at "E") (gseq g4 (evgs_cons evg_name (evgs_cons evg_name evgs_nil)) rfl)) ?_
    refine ex_seq (ex_setD (x := .int ((pos w ring room (i + 1)).1 : Int)) (ev_to (ev_Ii (ev_int1 (ev_I0i (ev_v rfl) (ev_v rfl))) (elen (ev_v rfl) g5) (by show (0 : Int) < _; rw [List.length_map]; have := R.pos; omega)) ?_)) ?_
    · rw [List.length_map]
      exact congrArg PyData.int (nxt_int R)
    refine ex_seq (ex_setD (x := sayD (saidAt w ring room (i + 1))) (ev_if (evt_b (ev_isN (eix (eix (ev_v rfl) ev_int g6) (ev_v rfl) g7))) (fun e => ?_) fun e => ?_)) ?_
    · show EvD _ _ (sayD ((w.says.getD (pos w ring room (i + 1)).2 none).or (saidAt w ring room i)))
      cases h : w.says.getD (pos w ring room (i + 1)).2 none with
      | none => exact ev_v rfl
      | some i => rw [h] at e; cases e
    · show EvD _ _ (sayD ((w.says.getD (pos w ring room (i + 1)).2 none).or (saidAt w ring room i)))
      cases h : w.says.getD (pos w ring room (i + 1)).2 none with
      | none => rw [h] at e; cases e
      | some j =>
        rw [h] at g7
        exact eix (eix (ev_v rfl) ev_int g6) (ev_v rfl) g7
    refine ex_to (ex_app (i := 6) (x := triAt w ring room (i + 1)) rfl (etupl (eva_cons (ev_v rfl) (eva_cons (ev_v rfl) (eva_cons (ev_v rfl) eva_nil))) rfl) (by rw [rowsD_length, sizeLine_eq]; omega)) ?_
    show [_, _, _, _, _, _, Sl.m (rowsD w ring room i ++ [triAt w ring room (i + 1)]), _, _] = [_, _, _, _, _, _, _, _, _]
    rw [← rowsD_succ, if_neg (Nat.succ_ne_zero i), if_neg (Nat.succ_ne_zero i)]
    rfl
  · rw [List.length_map, List.length_range, Int.toNat_natCast]
    rfl
/-! ### _law_again -/
def RLAgain (ds : List PyData) (r : PyData) : Prop := ∃ (w : Wk) (ring : List Nat) (room n L f : Nat), Cyc w ring room L f ∧ L ≤ n ∧ n ≤ 4000000 ∧ ds = [.list (rowsD w ring room n), .int (room : Int)] ∧ r = .tuple [.int (f : Int), .int (L : Int)]
theorem sc__law_again : FnScope ["_law_rows", "_law_room", "_law_seen", "_law_k", "_law_own"] ["_law_rows", "_law_room"] (defScope (top 33)) := ⟨rfl, rfl, rfl, by decide +kernel, rfl, by decide +kernel, by decide +kernel⟩
theorem ok__law_again (T : Tx mg) (F : Def K mg "_law_again" ["_law_rows", "_law_room"] (top 33)) : Cal P w K mg base "_law_again" ["_law_rows", "_law_room"] 1 (spD RLAgain) := by
  have sc := sc__law_again
  refine def_ok F sc (fun ds r h => ?_) fun f cdv A outer s H E ds r hr h => ?_
  · obtain ⟨_, _, _, _, _, _, _, _, _, rfl, _⟩ := h
    rfl
  obtain ⟨w, ring, room, n, L, f, C, hL, hn, rfl, rfl⟩ := h
  have hu := hu_of hr
  refine ⟨_, (pss_cons (ps_set (i := 2) sc.nd rfl (Or.inl rfl) (pe_disp1T hu (pe_tup (pa_cons (pv 1) (pa_cons pe_int pa_nil))) pe_int))
    (pss_cons (ps_for PassesOwn.never rfl (pi_enumK K rfl T.enumerate (pa_cons (pv 0) pa_nil)) (pg_seqK K 2 rfl (pgs_cons (pg_name (i := 3) sc.nd rfl (Or.inl rfl)) (pgs_cons (pg_name (i := 4) sc.nd rfl (Or.inl rfl)) pgs_nil)))
      (pss_cons (ps_if (pt_cmp (pc_din hu (pe_slice (slK K) (pv 4) po_none (po_some pe_int)) (pv 2)) rfl) (pss_one (ps_ret (pe_tup (pa_cons (pe_dget hu (pv 2) (pe_slice (slK K) (pv 4) po_none (po_some pe_int)) (fun _ _ => rfl)) (pa_cons (pe_op op_add (pv 3) pe_int) pa_nil))))) pss_nil)
      (pss_one (ps_dput hu (pv 2) (pe_slice (slK K) (pv 4) po_none (po_some pe_int)) (pe_op op_add (pv 3) pe_int) rfl))))
    (pss_one (ps_ret (pe_tup (pa_cons pe_int (pa_cons pe_int pa_nil))))))), ?_⟩
  have hL0 := C.lt
  refine ex_seq (ex_set (s := .q [([(room : Int), 0], 0)]) (ev_disp1 (k := [(room : Int), 0]) (show EvD _ _ (.tuple [.int (room : Int), .int 0]) from by walk_at "E") ev_int)) ?_
  refine ex_seqR ?_
  have it : ∀ i, i < n → ((rowsD w ring room n).mapIdx fun i d => PyData.tuple [.int (i : Int), d])[i]? = some (.tuple [.int (i : Int), triAt w ring room (i + 1)]) := fun i hi => by
    rw [List.getElem?_mapIdx, rowsD_get hi]
    rfl
  have key : ∀ (j : Nat) (a b : Sl), EvD (tSl (rSlX K) (tVar 4) tNoPart (tPart (tC (.int 2)))) [.d (.list (rowsD w ring room n)), .d (.int (room : Int)), .q (numD w ring room (j + 1)), a, .d (triAt w ring room (j + 1))] (.tuple ((keyAt w ring room (j + 1)).map .int)) := fun j a b =>
    ev_slice (k := false) (ds := [.int ((pos w ring room (j + 1)).1 : Int), .int ((pos w ring room (j + 1)).2 : Int), sayD (saidAt w ring room (j + 1))]) (ev_v rfl) evo_none (evo_some ev_int)
  refine ex_forR (L - 1) (fun i => [.d (.list (rowsD w ring room n)), .d (.int (room : Int)), .q (numD w ring room (i + 1)), if i = 0 then .u else .d (.int ((i - 1 : Nat) : Int)), if i = 0 then .u else .d (triAt w ring room i)]) (evi_enum (eva_cons (ev_v rfl) eva_nil)) (by rw [List.length_mapIdx, rowsD_length]; omega) (fun i d hi hd => ?_) fun d hd => ?_
  · rw [it i (by omega)] at hd
    cases hd
    refine ⟨_, _, gseq (two_ _ _) (evgs_cons evg_name (evgs_cons evg_name evgs_nil)) rfl, ?_⟩
    refine ex_seq (ex_ifF (evt_b (b := false) ?_) ex_next) ?_
    · have h := ev_din (i := 2) (δ := [.d (.list (rowsD w ring room n)), .d (.int (room : Int)), .q (numD w ring room (i + 1)), .d (.int (i : Int)), .d (triAt w ring room (i + 1))]) rfl (key i (.d (.int (i : Int))) .u)
      rw [C.fresh (by omega)] at h
      exact h
    refine ex_to (ex_dput (i := 2) (z := ((i + 1 : Nat) : Int)) rfl (ev_to (ev_I0i (ev_v rfl) ev_int) (by rfl)) (key i (.d (.int (i : Int))) .u) (C.fresh (by omega)) (by rw [numD_length, sizeLine_eq]; omega)) ?_
    show [_, _, Sl.q (numD w ring room (i + 1) ++ [(keyAt w ring room (i + 1), ((i + 1 : Nat) : Int))]), _, _] = [_, _, _, _, _]
    rw [← numD_succ, if_neg (Nat.succ_ne_zero i), if_neg (Nat.succ_ne_zero i)]
    rfl
  · rw [it (L - 1) (by omega)] at hd
    cases hd
    refine ⟨_, _, gseq (two_ _ _) (evgs_cons evg_name (evgs_cons evg_name evgs_nil)) rfl, ?_⟩
    have eL : L - 1 + 1 = L := by omega
    have hk := key (L - 1) (.d (.int ((L - 1 : Nat) : Int))) .u
    show Ex _ [.d (.list (rowsD w ring room n)), .d (.int (room : Int)), .q (numD w ring room (L - 1 + 1)), .d (.int ((L - 1 : Nat) : Int)), .d (triAt w ring room (L - 1 + 1))] _
    rw [eL] at hk ⊢
    refine ex_seqR (ex_ifT (evt_b (b := true) ?_) ?_)
    · have h := ev_din (i := 2) rfl hk
      rw [C.again] at h
      exact h
    exact ex_ret (etupl (eva_cons (ev_dget (i := 2) rfl hk C.again) (eva_cons (ev_to (ev_I0i (ev_v rfl) ev_int) (congrArg PyData.int (by omega))) eva_nil)) rfl)
/-! ### _law_far -/
def RLFar (ds : List PyData) (r : PyData) : Prop := ∃ (w : Wk) (ring : List Nat) (room n many L f : Nat), Cyc w ring room L f ∧ 3 * L ≤ n ∧ n ≤ 4000000 ∧ ds = [.list (rowsD w ring room n), .int (room : Int), .int (many : Int)] ∧ r = sayD (saidAt w ring room (near L f many))
theorem sc__law_far : FnScope ["_law_rows", "_law_room", "_law_many", "_law_first", "_law_last", "_law_around", "_law_near"] ["_law_rows", "_law_room", "_law_many"] (defScope (top 35)) := ⟨rfl, rfl, rfl, by decide +kernel, rfl, by decide +kernel, by decide +kernel⟩
theorem ok__law_far (T : Tx mg) (F : Def K mg "_law_far" ["_law_rows", "_law_room", "_law_many"] (top 35)) (c_law_again : Cal P w K mg base "_law_again" ["_law_rows", "_law_room"] 1 (spD RLAgain)) : Cal P w K mg base "_law_far" ["_law_rows", "_law_room", "_law_many"] 2 (spD RLFar) := by
  have sc := sc__law_far
  refine def_ok F sc (fun ds r h => ?_) fun f cdv A outer s H E ds r hr h => ?_
  · obtain ⟨_, _, _, _, _, _, _, _, _, _, rfl, _⟩ := h
    rfl
  obtain ⟨w, ring, room, n, many, L, f, C, hL, hn, rfl, rfl⟩ := h
  refine ⟨_, (pss_cons (ps_asg (pe_cal c_law_again (hr.mono (by decide)) rfl (pa_cons (pv 0) (pa_cons (pv 1) pa_nil))) (pg_seqK K 2 rfl (pgs_cons (pg_name (i := 3) sc.nd rfl (Or.inl rfl)) (pgs_cons (pg_name (i := 4) sc.nd rfl (Or.inl rfl)) pgs_nil))))
    (pss_cons (ps_set (i := 5) sc.nd rfl (Or.inl rfl) (pe_op op_sub (pv 4) (pv 3)))
    (pss_cons (ps_set (i := 6) sc.nd rfl (Or.inl rfl) (pe_ifExp (pt_cmpR op_le (pv 2) (pe_op op_add (pv 4) (pv 5)) (nomark _)) (pv 2) (pe_op op_add (pe_op op_add (pv 4) (pv 5)) (pe_op op_mod (pe_callTy call_intX rfl T.int PyProof.Rows.boot_int (pa_cons (pe_op op_sub (pv 2) (pv 4)) pa_nil)) (pv 5)))))
    (pss_one (ps_ret (pe_ifExp (pt_cmpR op_gt (pv 6) pe_int (nomark _)) (pe_ix (ixK K) (pe_ix (ixK K) (pv 0) (pe_op op_sub (pv 6) pe_int) (fun _ _ => rfl)) pe_int (fun _ _ => rfl)) pe_non)))))), ?_⟩
  have hf := C.lt
  have hnear := near_lt (n := many) hf
  refine ex_seq (ex_asg (x := .tuple [.int (f : Int), .int (L : Int)]) (ev_call (eva_cons (ev_v rfl) (eva_cons (ev_v rfl) eva_nil)) ⟨w, ring, room, n, L, f, C, by omega, hn, rfl, rfl⟩) (gseq (two_ _ _) (evgs_cons evg_name (evgs_cons evg_name evgs_nil)) rfl)) ?_
  refine ex_seq (ex_setD (x := .int ((L - f : Nat) : Int)) (ev_to (ev_I0i (ev_v rfl) (ev_v rfl)) (congrArg PyData.int (by omega)))) ?_
  refine ex_seq (ex_setD (x := .int (near L f many : Nat)) (ev_if (b := decide ((many : Int) ≤ (L : Int) + ((L - f : Nat) : Int))) (evt_test (ev_I0b (ev_v rfl) (ev_I0i (ev_v rfl) (ev_v rfl)))) (fun e => ?_) fun e => ?_)) ?_
  · have e' := of_decide_eq_true e
    refine ev_to (ev_v rfl) (congrArg PyData.int ?_)
    unfold near
    by_cases q : many < 2 * L - f
    · rw [if_pos q]
    · rw [if_neg q, show many - (2 * L - f) = 0 by omega, Nat.zero_mod]
      omega
  · have e' := of_decide_eq_false e
    refine ev_to (ev_I0i (ev_I0i (ev_v rfl) (ev_v rfl)) (ev_Ii (ev_int1 (ev_I0i (ev_v rfl) (ev_v rfl))) (ev_v rfl) (show (0 : Int) < ((L - f : Nat) : Int) by omega))) (congrArg PyData.int ?_)
    unfold near
    rw [if_neg (by omega), Int.natCast_add, Int.natCast_emod, show ((many : Int) - (L : Int)) = (((many - (2 * L - f) + (L - f) : Nat)) : Int) by omega, Int.natCast_add (many - (2 * L - f)), Int.add_emod_right]
    omega
  refine ex_ret (ev_if (b := decide ((0 : Int) < (near L f many : Nat))) (evt_test (ev_I0b (g := fun i j => decide (j < i)) (ev_v rfl) ev_int)) (fun e => ?_) fun e => ?_)
  · have e' := of_decide_eq_true e
    refine eix (y := triAt w ring room (near L f many)) (eix (y := .list (rowsD w ring room n)) (ev_v rfl) (ev_I0i (ev_v rfl) ev_int) ?_) ev_int rfl
    rw [show (((near L f many : Nat) : Int) - 1) = ((near L f many - 1 : Nat) : Int) by omega]
    refine getD_nat (k := true) ?_
    rw [rowsD_get (by omega), show near L f many - 1 + 1 = near L f many by omega]
  · have e' := of_decide_eq_false e
    rw [show near L f many = 0 by omega]
    exact ev_non
/-! ### _law_words -/
def RLWords (ds : List PyData) (r : PyData) : Prop := ∃ (w : Wk) (ring : List Nat) (room n : Nat), n ≤ 4000000 ∧ ds = [.list (rowsD w ring room n)] ∧ r = .tuple ((wordsF (fun i => saidAt w ring room (i + 1)) n).map sayD)
theorem sc__law_words : FnScope ["_law_rows", "_law_found", "_law_own"] ["_law_rows"] (defScope (top 36)) := ⟨rfl, rfl, rfl, by decide +kernel, rfl, by decide +kernel, by decide +kernel⟩
theorem wordsF_length (s : Nat → Option Int) : ∀ n, (wordsF s n).length ≤ n := fun n => by rw [words_chg, List.length_map]; exact chg_length s n
theorem eqv_nil1 (x : PyData) : PyData.eqv (.list []) (.list [x]) = false := rfl
theorem ok__law_words (T : Tx mg) (F : Def K mg "_law_words" ["_law_rows"] (top 36)) : Cal P w K mg base "_law_words" ["_law_rows"] 1 (spD RLWords) := by
  have sc := sc__law_words
  refine def_ok F sc (fun ds r h => ?_) fun f cdv A outer s H E ds r hr h => ?_
  · obtain ⟨_, _, _, _, _, rfl, _⟩ := h
    rfl
  obtain ⟨w, ring, room, n, hn, rfl, rfl⟩ := h
  refine ⟨_, (pss_cons (ps_set (i := 1) sc.nd rfl (Or.inl rfl) (pe_lst pa_nil))
    (pss_cons (ps_for PassesOwn.never rfl (pi_seqK K (pv 0)) (pg_name (i := 2) sc.nd rfl (Or.inl rfl))
      (pss_one (ps_if (PW.pt (pw_and (pt_cmp (pc_notN (pe_ix (ixK K) (pv 2) pe_int (fun _ _ => rfl))) rfl) (pw_and1 (pt_cmpR (neK K hr.units) (pe_slice (slK K) (pv 1) (po_some (pe_un un_neg pe_int)) po_none) (pe_lst (pa_cons (pe_ix (ixK K) (pv 2) pe_int (fun _ _ => rfl)) pa_nil)) (nomark _))))) (pss_one (ps_expr (pe_bm PySem.F.plainAttrs_list PySem.F.slot_list_append PySem.F.type_list_append mt_append (pv 1) (pa_cons (pe_ix (ixK K) (pv 2) pe_int (fun _ _ => rfl)) pa_nil)))) pss_nil)))
    (pss_one (ps_ret (pe_callTy (tupK K) rfl T.tuple PyProof.Rows.boot_tuple (pa_cons (pv 1) pa_nil)))))), ?_⟩
  refine ex_seq (ex_set (s := .m []) (elstM eva_nil rfl)) ?_
  refine ex_seq (ex_to (ex_for (fun i => [.d (.list (rowsD w ring room n)), .m ((wordsF (fun i => saidAt w ring room (i + 1)) i).map sayD), if i = 0 then .u else .d (triAt w ring room i)]) (iseq (ev_v rfl) rfl) fun i d hd => ?_) rfl) ?_
  · have hi : i < n := by
      have h1 := (List.getElem?_eq_some_iff.mp hd).1
      rw [rowsD_length] at h1
      exact h1
    rw [rowsD_get hi] at hd
    cases hd
    refine ⟨_, _, evg_name, ?_⟩
    have hw := words_law (saidAt_keeps (w := w) (r := ring) (room := room)) i
    rw [if_neg (Nat.succ_ne_zero i)]
    -- the test
    have t1 : EvT (tB (tNotN (tOp (rIx K) (tVar 2) (tC (.int 2))))) [.d (.list (rowsD w ring room n)), .m ((wordsF (fun i => saidAt w ring room (i + 1)) i).map sayD), .d (triAt w ring room (i + 1))] (!isNoneD (sayD (saidAt w ring room (i + 1)))) :=
      evt_b (ev_notN (eix (ev_v rfl) ev_int rfl))
    have t2 : EvT (tTest (tOp (rNeD K) (tSl (rSlX K) (tVar 1) (tPart (tUn (rU fun i => .int (-i)) (tC (.int 1)))) tNoPart) (tLst (tCons (tOp (rIx K) (tVar 2) (tC (.int 2))) tNil)))) [.d (.list (rowsD w ring room n)), .m ((wordsF (fun i => saidAt w ring room (i + 1)) i).map sayD), .d (triAt w ring room (i + 1))] (!decide ((wordsF (fun i => saidAt w ring room (i + 1)) i).getLast? = some (saidAt w ring room (i + 1)))) := by
      have h := evt_test (ev_neD (K := K) (ev_sliceM (K := K) (i := 1) (δ := [.d (.list (rowsD w ring room n)), .m ((wordsF (fun i => saidAt w ring room (i + 1)) i).map sayD), .d (triAt w ring room (i + 1))]) rfl (evo_some (ev_neg (g := fun i => -i) (i := 1) ev_int)) evo_none) (elst (eva_cons (x := sayD (saidAt w ring room (i + 1))) (eix (ta := tVar 2) (tb := tC (.int 2)) (K := K) (y := triAt w ring room (i + 1)) (i := 2) (ev_v rfl) ev_int rfl) eva_nil) rfl) ?_ ?_)
      · refine evt_to h ?_
        rcases List.eq_nil_or_concat (wordsF (fun i => saidAt w ring room (i + 1)) i) with z | ⟨xs, x, z⟩
        · rw [z]
          rfl
        · rw [z, List.concat_eq_append, List.map_append, List.map_singleton, cut_last, eqv_say1, List.getLast?_append]
          show (!decide (x = saidAt w ring room (i + 1))) = !decide (some x = some (saidAt w ring room (i + 1)))
          by_cases q : x = saidAt w ring room (i + 1)
          · rw [q, decide_eq_true rfl, decide_eq_true rfl]
          · rw [decide_eq_false q, decide_eq_false (fun y => q (Option.some.inj y))]
      · rcases List.eq_nil_or_concat (wordsF (fun i => saidAt w ring room (i + 1)) i) with z | ⟨xs, x, z⟩
        · rw [z]
          rfl
        · rw [z, List.concat_eq_append, List.map_append, List.map_singleton, cut_last]
          exact (okD_list (n := 0) fun y hy => by
            have e : y = sayD x := by simpa using hy
            rw [e]
            exact okD_say).shaped (by decide)
      · exact (okD_list (n := 0) fun y hy => by
            have e : y = sayD (saidAt w ring room (i + 1)) := by simpa using hy
            rw [e]
            exact okD_say).shaped (by decide)
    refine ex_if (evt_and t1 fun _ => t2) (fun e => ?_) fun e => ?_
    · refine ex_to (ex_app (i := 1) (x := sayD (saidAt w ring room (i + 1))) rfl (eix (ev_v rfl) ev_int rfl) (by rw [List.length_map]; have := wordsF_length (fun i => saidAt w ring room (i + 1)) i; rw [sizeLine_eq]; omega)) ?_
      show [_, Sl.m ((wordsF (fun i => saidAt w ring room (i + 1)) i).map sayD ++ [sayD (saidAt w ring room (i + 1))]), _] = [_, _, _]
      rw [hw, if_pos, List.map_append, List.map_singleton]
      rw [Bool.and_eq_true] at e
      refine ⟨fun z => ?_, fun z => ?_⟩
      · rw [z] at e; cases e.1
      · rw [decide_eq_true z] at e; cases e.2
    · refine ex_to ex_next ?_
      show [_, Sl.m ((wordsF (fun i => saidAt w ring room (i + 1)) i).map sayD), _] = [_, _, _]
      rw [hw, if_neg]
      rintro ⟨z1, z2⟩
      rw [decide_eq_false z2] at e
      cases q : saidAt w ring room (i + 1) with
      | none => exact z1 q
      | some v => rw [q] at e; cases e
  · rw [rowsD_length]
    exact ex_ret (ev_tupleM (i := 1) rfl)
end
end L3
/-! W4: the walk of tuple_of, is_move, is_saying, is_walker, goes_on, mirrored_walker. -/
namespace L3
open PySem PySem.Spec PyProof.Rows L2
local macro_rules | `(tactic| walk_at "E") => `(tactic| first
  | (with_reducible exact ev_int)
  | (with_reducible exact ev_bl)
  | (with_reducible exact ev_non)
  | ((with_reducible apply ev_v); exact rfl)
  | ((with_reducible apply eix) <;> walk_at "E")
  | ((with_reducible apply elen) <;> walk_at "E")
  | ((with_reducible apply etup) <;> walk_at "E")
  | ((with_reducible apply etupl) <;> walk_at "E")
  | ((with_reducible apply elst) <;> walk_at "E")
  | (with_reducible exact eva_nil)
  | ((with_reducible apply eva_cons) <;> walk_at "E")
  | ((with_reducible apply ev_I0i) <;> walk_at "E")
  | ((with_reducible apply ev_I0b) <;> walk_at "E")
  | ((with_reducible apply ev_Ii) <;> walk_at "E")
  | ((with_reducible apply ev_neg) <;> walk_at "E")
  | ((with_reducible apply ev_isi2) <;> walk_at "E")
  | ((with_reducible apply ev_isi) <;> walk_at "E")
  | ((with_reducible apply ev_int1) <;> walk_at "E")
  | ((with_reducible apply evt_test) <;> walk_at "E")
  | ((with_reducible apply evt_b) <;> walk_at "E")
  | ((with_reducible apply evt_not) <;> walk_at "E")
  | ((with_reducible apply ev_isN) <;> walk_at "E")
  | ((with_reducible apply ev_notN) <;> walk_at "E")
  | ((with_reducible apply ev_call) <;> walk_at "E")
  | ((with_reducible apply ev_eqD) <;> walk_at "E")
  | ((with_reducible apply ev_neD) <;> walk_at "E")
  | ((with_reducible apply elstM) <;> walk_at "E")
  | ((with_reducible apply ex_seq) <;> walk_at "E")
  | ((with_reducible apply ex_retE) <;> walk_at "E")
  | ((with_reducible apply ex_asg) <;> walk_at "E")
  | ((with_reducible apply ex_setD) <;> walk_at "E")
  | (with_reducible exact ex_next)
  | (with_reducible exact evg_name)
  | (with_reducible exact evgs_nil)
  | ((with_reducible apply evgs_cons) <;> walk_at "E")
  | ((with_reducible apply gseq) <;> walk_at "E")
  | ((with_reducible apply ev_slice) <;> walk_at "E")
  | (with_reducible exact evo_none)
  | ((with_reducible apply evo_some) <;> walk_at "E")
  | (show (_ : Prop); assumption)
  | exact rfl
  | skip)
local macro_rules | `(tactic| walk_at "V") => `(tactic| ((apply ev_to) <;> walk_at "E"))
theorem ev_allB {K : PySem.W.Frag} {wi : TI} {g : TG} {te : TE} {vs : List Nat} {δ : List Sl} {ds : List PyData} (bs : List Bool) (hi : EvI wi δ ds) (hk : bs.length = ds.length) (hz : ds.length ≤ sizeLine)
    (hs : ∀ (i : Nat) (d : PyData) (b : Bool), ds[i]? = some d → bs[i]? = some b → ∃ ws δ', EvG g (wipeD δ vs) d ws δ' ∧ (∀ j, j ∈ ws → j ∈ vs) ∧ EvD te δ' (.bool b)) :
    EvD (tCB (rAll K) (tCons (tLc wi g tYes te vs) tNil)) δ (.bool (bs.all id)) := by
  refine ev_all (ev_lc (bs.map .bool) hi (by rw [List.length_map]; exact hk) hz fun i d e hd he => ?_)
  rw [List.getElem?_map] at he
  cases hb : bs[i]? with
  | none => rw [hb] at he; cases he
  | some b =>
    rw [hb] at he
    cases he
    exact hs i d b hd hb
theorem all_reps : ∀ n, (List.replicate n true).all id = true
  | 0 => rfl
  | n + 1 => by rw [List.replicate_succ, List.all_cons, all_reps n]; rfl
theorem ev_allT {K : PySem.W.Frag} {wi : TI} {g : TG} {te : TE} {vs : List Nat} {δ : List Sl} {ds : List PyData} (hi : EvI wi δ ds) (hz : ds.length ≤ sizeLine)
    (hs : ∀ (i : Nat) (d : PyData), ds[i]? = some d → ∃ ws δ', EvG g (wipeD δ vs) d ws δ' ∧ (∀ j, j ∈ ws → j ∈ vs) ∧ EvD te δ' (.bool true)) :
    EvD (tCB (rAll K) (tCons (tLc wi g tYes te vs) tNil)) δ (.bool true) := by
  have h := ev_allB (K := K) (g := g) (te := te) (vs := vs) (List.replicate ds.length true) hi (by rw [List.length_replicate]) hz fun i d b hd hb => by
    rw [List.getElem?_replicate] at hb
    split at hb
    · cases hb
      exact hs i d hd
    · cases hb
  rwa [all_reps] at h
section
variable {P : Program} {w : World} {K : PySem.W.Frag} {mg : Str → Option Value} {base : Heap}
/-! ### tuple_of -/
def RT : Nat → List PyData → PyData → Prop
  | 0, _, _ => False
  | n + 1, ds, r => ∃ d, Pl n d ∧ ds = [d] ∧ r = toT n d
theorem sc_tuple_of : FnScope ["thing", "part"] ["thing"] (defScope (top 4)) := ⟨rfl, rfl, rfl, by decide +kernel, rfl, by decide +kernel, by decide +kernel⟩
theorem cal_never {x : Str} {ps : List Str} {st : Stmt} (F : Def K mg x ps st) {R : List PyData → PyData → Prop} (h : ∀ ds r, ¬ R ds r) : Cal P w K mg base x ps 0 (spD R) := by
  obtain ⟨f, fd, F0, hm, hb⟩ := F.ex
  have no : ∀ vs H Q E, ¬ spD R vs H Q E := fun vs H Q E ⟨_, ds, r, _, _, z, _⟩ => h ds r z
  exact ⟨f, fd, ⟨fun vs H Q E h => absurd h (no vs H Q E), fun A outer s H args us vs Q E _ _ _ _ h => absurd h (no vs H Q E)⟩, hm, F0.kp, hb⟩
theorem ok_tuple_of (T : Tx mg) (F : Def K mg "tuple_of" ["thing"] (top 4)) : ∀ n, Cal P w K mg base "tuple_of" ["thing"] n (spD (RT n))
  | 0 => cal_never F fun _ _ h => h
  | n + 1 => by
    have ctuple_of := ok_tuple_of T F n
    have sc := sc_tuple_of
    refine def_ok F sc (fun ds r h => ?_) fun f cdv A outer s H E ds r hr h => ?_
    · obtain ⟨_, _, rfl, _⟩ := h
      rfl
    obtain ⟨d, hd, rfl, rfl⟩ := h
    refine ⟨_, (pss_cons (ps_if (pt_val (pe_callB (isiTK K) rfl T.isinstance (by decide +kernel) (pa_cons (pv 0) (pa_cons (pe_tup (pa_cons (pe_bltn (v := .ty "list") rfl T.list PyProof.Rows.boot_list rfl) (pa_cons (pe_bltn (v := .ty "tuple") rfl T.tuple PyProof.Rows.boot_tuple rfl) pa_nil))) pa_nil)))) (pss_one (ps_ret (pe_callTy (tupK K) rfl T.tuple PyProof.Rows.boot_tuple (pa_cons (pe_lc (own := [("part", 1)]) rfl sc.nd (pi_seqK K (pv 0)) (blkOk_by (by rfl)) (fun _ _ _ _ _ => (pg_name (i := 1) sc.nd rfl (Or.inl rfl))) (fun _ _ _ _ _ => pts_nil) (fun _ _ _ _ _ => (pe_cal ctuple_of hr rfl (pa_cons (pv 1) pa_nil)))) pa_nil)))) pss_nil)
    (pss_one (ps_ret (pv 0)))), ?_⟩
    have seq : ∀ (m : Nat) (k : Bool) (xs : List PyData), n = m + 1 → d = sq k xs → xs.length ≤ 4000000 → (∀ x ∈ xs, Pl m x) → EvD (tCB (rTupleOf K) (tCons (tLc (iSeq K (tVar 0)) (gName 1) tYes (tCall (spD (RT n)) [] E0 (tCons (tVar 1) tNil)) [1]) tNil)) (stD ["thing", "part"] [d]) (toT n d) := fun m k xs en ed hl hx => by
      subst en ed
      rw [toT_sq]
      refine etup (y := .list (xs.map (toT m))) (ev_lc _ (iseq (ev_v rfl) (sq_items _ _)) (by rw [List.length_map]) (line_of hl) fun i x e hx' he => ?_) rfl
      rw [List.getElem?_map, hx'] at he
      cases he
      exact ⟨_, _, evg_name, fun j h => h, ev_call (eva_cons (ev_v rfl) eva_nil) ⟨x, hx x (List.mem_of_getElem? hx'), rfl, rfl⟩⟩
    cases d with
    | none =>
      refine ex_seq (ex_ifF (evt_b (ev_isi2 (x := .none) (T := "list") (U := "tuple") (ev_v rfl) k_nl k_nt)) ex_next) (ex_ret (ev_to (ev_v rfl) ?_))
      cases n <;> rfl
    | bool b =>
      refine ex_seq (ex_ifF (evt_b (ev_isi2 (x := .bool b) (T := "list") (U := "tuple") (ev_v rfl) k_bl k_bt)) ex_next) (ex_ret (ev_to (ev_v rfl) ?_))
      cases n <;> rfl
    | int i =>
      refine ex_seq (ex_ifF (evt_b (ev_isi2 (x := .int i) (T := "list") (U := "tuple") (ev_v rfl) k_il k_it)) ex_next) (ex_ret (ev_to (ev_v rfl) ?_))
      cases n <;> rfl
    | str x => cases n <;> exact hd.elim
    | dict x => cases n <;> exact hd.elim
    | list xs =>
      cases n with
      | zero => exact hd.elim
      | succ m => exact ex_seqR (ex_ifT (evt_b (ev_isi2 (x := .list xs) (T := "list") (U := "tuple") (ev_v rfl) k_ll k_lt)) (ex_ret (seq m true xs rfl rfl hd.1 hd.2)))
    | tuple xs =>
      cases n with
      | zero => exact hd.elim
      | succ m => exact ex_seqR (ex_ifT (evt_b (ev_isi2 (x := .tuple xs) (T := "list") (U := "tuple") (ev_v rfl) k_tl k_tt)) (ex_ret (seq m false xs rfl rfl hd.1 hd.2)))
/-! ### is_move -/
def RIsMove (ds : List PyData) (r : PyData) : Prop := ∃ (many : Nat) (m : Nat × Int), m.1 < many ∧ -1 ≤ m.2 ∧ m.2 ≤ 1 ∧ ds = [.int (many : Int), moveD false m] ∧ r = .bool true
theorem sc_is_move : FnScope ["many", "thing", "own"] ["many", "thing"] (defScope (top 7)) := ⟨rfl, rfl, rfl, by decide +kernel, rfl, by decide +kernel, by decide +kernel⟩
theorem ok_is_move (T : Tx mg) (F : Def K mg "is_move" ["many", "thing"] (top 7)) (cis_tuple_of : Cal P w K mg base "is_tuple_of" ["thing", "many"] 1 (spD RIsTupleOf)) (cis_number : Cal P w K mg base "is_number" ["thing"] 1 (spD RIsNumber)) : Cal P w K mg base "is_move" ["many", "thing"] 2 (spD RIsMove) := by
  have sc := sc_is_move
  refine def_ok F sc (fun ds r h => ?_) fun f cdv A outer s H E ds r hr h => ?_
  · obtain ⟨_, _, _, _, _, rfl, _⟩ := h
    rfl
  obtain ⟨many, m, h1, h2, h3, rfl, rfl⟩ := h
  refine ⟨_, (pss_cons (ps_if (PW.pt (pw_or (pt_not (pt_val (pe_cal cis_tuple_of (hr.mono (by decide)) rfl (pa_cons (pv 1) (pa_cons pe_int pa_nil))))) (pw_or1 (pt_not (pt_val (pe_callB (allK K rfl) rfl T.all (by decide +kernel) (pa_cons (pe_lc (own := [("own", 2)]) rfl sc.nd (pi_seqK K (pv 1)) (blkOk_by (by rfl)) (fun _ _ _ _ _ => (pg_name (i := 2) sc.nd rfl (Or.inl rfl))) (fun _ _ _ _ _ => pts_nil) (fun _ _ _ _ _ => (pe_cal cis_number (hr.mono (by decide)) rfl (pa_cons (pv 2) pa_nil)))) pa_nil))))))) (pss_one (ps_ret pe_bl)) pss_nil)
    (pss_one (ps_ret (pe_and (pe_chain op_le op_lt pe_int (pe_ix (ixK K) (pv 1) pe_int (fun _ _ => rfl)) (pv 0)) (pe_one (pe_chain op_le op_le (pe_un un_neg pe_int) (pe_ix (ixK K) (pv 1) pe_int (fun _ _ => rfl)) pe_int)))))), ?_⟩
  refine ex_seq (ex_ifF (evt_to (evt_or (evt_not (evt_b (b := true) (ev_call (eva_cons (ev_v rfl) (eva_cons ev_int eva_nil)) ⟨[.int (m.1 : Int), .int m.2], rfl, rfl⟩))) fun _ => evt_not (evt_b (b := true) (ev_allT (iseq (y := moveD false m) (ev_v rfl) itMove) (by show 2 ≤ sizeLine; decide) fun i d hd => ⟨_, _, evg_name, fun j h => h, ?_⟩))) rfl) ex_next) ?_
  · match i, hd with
    | 0, hd => cases hd; exact ev_call (eva_cons (ev_v rfl) eva_nil) ⟨_, rfl, rfl⟩
    | 1, hd => cases hd; exact ev_call (eva_cons (ev_v rfl) eva_nil) ⟨_, rfl, rfl⟩
  · refine ex_ret ?_
    have c1 := ev_chain (g := fun i j => decide (i ≤ j)) (g' := fun i j => decide (i < j)) (δ := stD ["many", "thing", "own"] [.int (many : Int), moveD false m]) (ta := tC (.int 0)) (tb := tOp (rIx K) (tVar 1) (tC (.int 0))) (tc := tVar 0) ev_int (eix (y := moveD false m) (ev_v rfl) ev_int (x := .int (m.1 : Int)) rfl) (fun _ => ev_v rfl)
    have c2 := ev_chain (g := fun i j => decide (i ≤ j)) (g' := fun i j => decide (i ≤ j)) (δ := stD ["many", "thing", "own"] [.int (many : Int), moveD false m]) (ta := tUn (rU fun i => .int (-i)) (tC (.int 1))) (tb := tOp (rIx K) (tVar 1) (tC (.int 1))) (tc := tC (.int 1)) (ev_neg ev_int) (eix (y := moveD false m) (ev_v rfl) ev_int (x := .int m.2) rfl) (fun _ => ev_int)
    rw [decide_eq_true (show (0 : Int) ≤ (m.1 : Int) by omega), decide_eq_true (show (m.1 : Int) < (many : Int) by omega)] at c1
    rw [decide_eq_true (show (-1 : Int) ≤ m.2 from h2), decide_eq_true (show m.2 ≤ (1 : Int) from h3)] at c2
    exact ev_andV c1 fun _ => c2
/-! ### is_saying -/
def RIsSaying (ds : List PyData) (r : PyData) : Prop := ∃ (o : Option Int), (∀ i, o = some i → 0 ≤ i) ∧ ds = [sayD o] ∧ r = .bool true
theorem sc_is_saying : FnScope ["thing"] ["thing"] (defScope (top 8)) := ⟨rfl, rfl, rfl, by decide +kernel, rfl, by decide +kernel, by decide +kernel⟩
theorem ok_is_saying (T : Tx mg) (F : Def K mg "is_saying" ["thing"] (top 8)) (cis_number : Cal P w K mg base "is_number" ["thing"] 1 (spD RIsNumber)) : Cal P w K mg base "is_saying" ["thing"] 2 (spD RIsSaying) := by
  have sc := sc_is_saying
  refine def_ok F sc (fun ds r h => ?_) fun f cdv A outer s H E ds r hr h => ?_
  · obtain ⟨_, _, rfl, _⟩ := h
    rfl
  obtain ⟨o, ho, rfl, rfl⟩ := h
  refine ⟨_, (pss_one (ps_ret (pe_or (pe_cmp (pc_isN (pv 0)) rfl) (pe_one (pe_and (pe_cal cis_number (hr.mono (by decide)) rfl (pa_cons (pv 0) pa_nil)) (pe_one (pe_cmpR op_ge (pv 0) pe_int (nomark _)))))))), ?_⟩
  refine ex_ret (ev_to (ev_orV (c := true) (ev_isN (ev_v rfl)) fun e => ?_) ?_)
  · cases o with
    | none => cases e
    | some i =>
      have h := ho i rfl
      refine ev_to (ev_andV (b := true) (ev_call (eva_cons (ev_v rfl) eva_nil) ⟨i, rfl, rfl⟩) fun _ => ev_I0b (g := fun i j => decide (j ≤ i)) (ev_v rfl) ev_int) ?_
      rw [decide_eq_true h]
      rfl
  · rw [Bool.or_true]
end
end L3
/-! W5: the walk of is_walker, goes_on, mirrored_walker. -/
namespace L3
open PySem PySem.Spec PyProof.Rows L2
local macro_rules | `(tactic| walk_at "E") => `(tactic| first
  | (with_reducible exact ev_int)
  | (with_reducible exact ev_bl)
  | (with_reducible exact ev_non)
  | ((with_reducible apply ev_v); exact rfl)
  | ((with_reducible apply eix) <;> walk_at "E")
  | ((with_reducible apply elen) <;> walk_at "E")
  | ((with_reducible apply etup) <;> walk_at "E")
  | ((with_reducible apply etupl) <;> walk_at "E")
  | ((with_reducible apply elst) <;> walk_at "E")
  | (with_reducible exact eva_nil)
  | ((with_reducible apply eva_cons) <;> walk_at "E")
  | ((with_reducible apply ev_I0i) <;> walk_at "E")
  | ((with_reducible apply ev_I0b) <;> walk_at "E")
  | ((with_reducible apply ev_Ii) <;> walk_at "E")
  | ((with_reducible apply ev_neg) <;> walk_at "E")
  | ((with_reducible apply ev_isi2) <;> walk_at "E")
  | ((with_reducible apply ev_isi) <;> walk_at "E")
  | ((with_reducible apply ev_int1) <;> walk_at "E")
  | ((with_reducible apply evt_test) <;> walk_at "E")
  | ((with_reducible apply evt_b) <;> walk_at "E")
  | ((with_reducible apply evt_not) <;> walk_at "E")
  | ((with_reducible apply ev_isN) <;> walk_at "E")
  | ((with_reducible apply ev_notN) <;> walk_at "E")
  | ((with_reducible apply ev_call) <;> walk_at "E")
  | ((with_reducible apply ev_eqD) <;> walk_at "E")
  | ((with_reducible apply ev_neD) <;> walk_at "E")
  | ((with_reducible apply elstM) <;> walk_at "E")
  | ((with_reducible apply ex_seq) <;> walk_at "E")
  | ((with_reducible apply ex_retE) <;> walk_at "E")
  | ((with_reducible apply ex_asg) <;> walk_at "E")
  | ((with_reducible apply ex_setD) <;> walk_at "E")
  | (with_reducible exact ex_next)
  | (with_reducible exact evg_name)
  | (with_reducible exact evgs_nil)
  | ((with_reducible apply evgs_cons) <;> walk_at "E")
  | ((with_reducible apply gseq) <;> walk_at "E")
  | ((with_reducible apply ev_slice) <;> walk_at "E")
  | (with_reducible exact evo_none)
  | ((with_reducible apply evo_some) <;> walk_at "E")
  | (show (_ : Prop); assumption)
  | exact rfl
  | skip)
local macro_rules | `(tactic| walk_at "V") => `(tactic| ((apply ev_to) <;> walk_at "E"))
theorem mem_at {α : Type} {l : List α} {i : Nat} {a : α} (h : l[i]? = some a) : a ∈ l := List.mem_of_getElem? h
theorem map_at {α β : Type} {f : α → β} {l : List α} {i : Nat} {b : β} (h : (l.map f)[i]? = some b) : ∃ a, l[i]? = some a ∧ f a = b := by
  rw [List.getElem?_map] at h
  cases e : l[i]? with
  | none => rw [e] at h; cases h
  | some a => rw [e] at h; cases h; exact ⟨a, rfl, rfl⟩
section
variable {P : Program} {w : World} {K : PySem.W.Frag} {mg : Str → Option Value} {base : Heap}
/-! ### is_walker -/
def RIsWalker (ds : List PyData) (r : PyData) : Prop := ∃ (w : Wk) (wide : Nat), WOk w wide ∧ (∀ o ∈ w.says, ∀ i, o = some i → 0 ≤ i) ∧ ds = [walkD false w] ∧ r = .bool true
theorem sc_is_walker : FnScope ["thing", "steps", "says", "moves", "own", "move"] ["thing"] (defScope (top 9)) := ⟨rfl, rfl, rfl, by decide +kernel, rfl, by decide +kernel, by decide +kernel⟩
theorem rows_len {w : Wk} {wide : Nat} (W : WOk w wide) : ∀ l : List (List (Nat × Int)), (∀ row ∈ l, row.length = wide) → (l.map fun row => row.map (moveD false)).flatten.length = l.length * wide
  | [], _ => by simp
  | row :: l, h => by
    rw [List.map_cons, List.flatten_cons, List.length_append, List.length_map, h row List.mem_cons_self, rows_len W l fun r hr => h r (List.mem_cons_of_mem _ hr), List.length_cons, Nat.add_mul, Nat.one_mul, Nat.add_comm]
theorem ok_is_walker (T : Tx mg) (F : Def K mg "is_walker" ["thing"] (top 9)) (cis_tuple_of : Cal P w K mg base "is_tuple_of" ["thing", "many"] 1 (spD RIsTupleOf)) (cis_move : Cal P w K mg base "is_move" ["many", "thing"] 2 (spD RIsMove)) (cis_saying : Cal P w K mg base "is_saying" ["thing"] 2 (spD RIsSaying)) : Cal P w K mg base "is_walker" ["thing"] 3 (spD RIsWalker) := by
  have sc := sc_is_walker
  refine def_ok F sc (fun ds r h => ?_) fun f cdv A outer s H E ds r hr h => ?_
  · obtain ⟨_, _, _, _, rfl, _⟩ := h
    rfl
  obtain ⟨w, wide, W, hsay, rfl, rfl⟩ := h
  refine ⟨_, (pss_cons (ps_if (PW.pt (pw_or (pt_not (pt_val (pe_cal cis_tuple_of (hr.mono (by decide)) rfl (pa_cons (pv 0) (pa_cons pe_int pa_nil))))) (pw_or1 (pt_not (pt_val (pe_callB (allK K rfl) rfl T.all (by decide +kernel) (pa_cons (pe_lc (own := [("own", 4)]) rfl sc.nd (pi_seqK K (pv 0)) (blkOk_by (by rfl)) (fun _ _ _ _ _ => (pg_name (i := 4) sc.nd rfl (Or.inl rfl))) (fun _ _ _ _ _ => pts_nil) (fun _ _ _ _ _ => (pe_callB (isiK K) rfl T.isinstance (by decide +kernel) (pa_cons (pv 4) (pa_cons (pe_bltn (v := .ty "tuple") rfl T.tuple PyProof.Rows.boot_tuple rfl) pa_nil))))) pa_nil))))))) (pss_one (ps_ret pe_bl)) pss_nil)
    (pss_cons (ps_asg (pv 0) (pg_seqK K 2 rfl (pgs_cons (pg_name (i := 1) sc.nd rfl (Or.inr rfl)) (pgs_cons (pg_name (i := 2) sc.nd rfl (Or.inl rfl)) pgs_nil))))
    (pss_cons (ps_if (PW.pt (pw_or (pt_cmpR (eqK K hr.units) (pe_callB (lenK K) rfl T.len PySem.boot_len (pa_cons (pv 1) pa_nil)) pe_int (nomark _)) (pw_or (pt_cmpR (neK K hr.units) (pe_callB (lenK K) rfl T.len PySem.boot_len (pa_cons (pv 2) pa_nil)) (pe_callB (lenK K) rfl T.len PySem.boot_len (pa_cons (pv 1) pa_nil)) (nomark _)) (pw_or1 (pt_not (pt_val (pe_callB (allK K rfl) rfl T.all (by decide +kernel) (pa_cons (pe_lc (own := [("own", 4)]) rfl sc.nd (pi_seqK K (pv 1)) (blkOk_by (by rfl)) (fun _ _ _ _ _ => (pg_name (i := 4) sc.nd rfl (Or.inl rfl))) (fun _ _ _ _ _ => pts_nil) (fun _ _ _ _ _ => (pe_callB (isiK K) rfl T.isinstance (by decide +kernel) (pa_cons (pv 4) (pa_cons (pe_bltn (v := .ty "tuple") rfl T.tuple PyProof.Rows.boot_tuple rfl) pa_nil))))) pa_nil)))))))) (pss_one (ps_ret pe_bl)) pss_nil)
    (pss_cons (ps_if (PW.pt (pw_or (pt_not (pt_chain op_le op_le pe_int (pe_callB (lenK K) rfl T.len PySem.boot_len (pa_cons (pe_ix (ixK K) (pv 1) pe_int (fun _ _ => rfl)) pa_nil)) pe_int)) (pw_or1 (pt_not (pt_val (pe_callB (allK K rfl) rfl T.all (by decide +kernel) (pa_cons (pe_lc (own := [("own", 4)]) rfl sc.nd (pi_seqK K (pv 1)) (blkOk_by (by rfl)) (fun _ _ _ _ _ => (pg_name (i := 4) sc.nd rfl (Or.inl rfl))) (fun _ _ _ _ _ => pts_nil) (fun _ _ _ _ _ => (pe_cmpR (eqK K hr.units) (pe_callB (lenK K) rfl T.len PySem.boot_len (pa_cons (pv 4) pa_nil)) (pe_callB (lenK K) rfl T.len PySem.boot_len (pa_cons (pe_ix (ixK K) (pv 1) pe_int (fun _ _ => rfl)) pa_nil)) (nomark _)))) pa_nil))))))) (pss_one (ps_ret pe_bl)) pss_nil)
    (pss_cons (ps_setLc2 (i := 3) (own := [("own", 4), ("move", 5)]) rfl sc.nd rfl rfl (sw_true rfl rfl rfl (by rfl)) (pi_seqK K (pv 1)) (blkOk_by (by rfl)) (vs1 := [5]) (by decide) (fun _ _ _ _ _ => (pg_name (i := 4) sc.nd rfl (Or.inl rfl))) (fun _ _ _ _ _ => pts_nil) (fun _ _ _ _ _ => (pi_seqK K (pv 4))) (fun _ _ _ _ _ => (pg_name (i := 5) sc.nd rfl (Or.inl rfl))) (fun _ _ _ _ _ => pts_nil) (fun _ _ _ _ _ => (pv 5)))
    (pss_one (ps_ret (pe_and (pe_callB (allK K rfl) rfl T.all (by decide +kernel) (pa_cons (pe_lc (own := [("move", 5)]) rfl sc.nd (pi_seqK K (pv 3)) (blkOk_by (by rfl)) (fun _ _ _ _ _ => (pg_name (i := 5) sc.nd rfl (Or.inl rfl))) (fun _ _ _ _ _ => pts_nil) (fun _ _ _ _ _ => (pe_cal cis_move (hr.mono (by decide)) rfl (pa_cons (pe_callB (lenK K) rfl T.len PySem.boot_len (pa_cons (pv 1) pa_nil)) (pa_cons (pv 5) pa_nil))))) pa_nil)) (pe_one (pe_callB (allK K rfl) rfl T.all (by decide +kernel) (pa_cons (pe_lc (own := [("own", 4)]) rfl sc.nd (pi_seqK K (pv 2)) (blkOk_by (by rfl)) (fun _ _ _ _ _ => (pg_name (i := 4) sc.nd rfl (Or.inl rfl))) (fun _ _ _ _ _ => pts_nil) (fun _ _ _ _ _ => (pe_cal cis_saying (hr.mono (by decide)) rfl (pa_cons (pv 4) pa_nil)))) pa_nil))))))))))), ?_⟩
  have itS : itemsD (stepsD false w) = some (w.steps.map (rowD false)) := rfl
  have itY : itemsD (saysD false w) = some (w.says.map sayD) := rfl
  have lenS : (w.steps.map (rowD false)).length = w.steps.length := List.length_map _
  have lenY : (w.says.map sayD).length = w.steps.length := by rw [List.length_map, W.len]
  have zS : (w.steps.map (rowD false)).length ≤ sizeLine := line_of (by rw [lenS]; have := W.few; omega)
  have zY : (w.says.map sayD).length ≤ sizeLine := line_of (by rw [lenY]; have := W.few; omega)
  -- a pair of tuples
  refine ex_seq (ex_ifF (evt_to (evt_or (evt_not (evt_b (b := true) (ev_call (eva_cons (ev_v rfl) (eva_cons ev_int eva_nil)) ⟨[stepsD false w, saysD false w], rfl, rfl⟩))) fun _ => evt_not (evt_b (b := true) (ev_allT (iseq (y := walkD false w) (ds := [stepsD false w, saysD false w]) (ev_v rfl) rfl) (by show 2 ≤ sizeLine; decide) fun i d hd => ⟨_, _, evg_name, fun j h => h, ?_⟩))) rfl) ex_next) ?_
  · match i, hd with
    | 0, hd => cases hd; exact ev_isi (x := stepsD false w) (ev_v rfl) k_tt
    | 1, hd => cases hd; exact ev_isi (x := saysD false w) (ev_v rfl) k_tt
  refine ex_seq (ex_asg (x := walkD false w) (ev_v rfl) (gseq (ds := [stepsD false w, saysD false w]) rfl (evgs_cons evg_name (evgs_cons evg_name evgs_nil)) rfl)) ?_
  -- steps is not empty, says as long, its rows are tuples
  refine ex_seq (ex_ifF (evt_to (evt_or (evt_test (ev_eqD (elen (ev_v rfl) itS) ev_int rfl rfl)) fun _ => evt_or (evt_test (ev_neD (elen (ev_v rfl) itY) (elen (ev_v rfl) itS) rfl rfl)) fun _ => evt_not (evt_b (b := true) (ev_allT (iseq (ev_v rfl) itS) zS fun i d hd => ⟨_, _, evg_name, fun j h => h, ?_⟩))) ?_) ex_next) ?_
  · obtain ⟨row, _, rfl⟩ := map_at hd
    exact ev_isi (x := rowD false row) (ev_v rfl) k_tt
  · rw [lenS, lenY, eqv_int]
    have : ((w.steps.length : Int) == 0) = false := by
      have := W.pos
      exact beq_eq_false_iff_ne.mpr (by omega)
    show ((w.steps.length : Int) == 0 || (!true || !true)) = false
    rw [this]
    rfl
  -- rows of one length
  have g1 : getD (stepsD false w) 0 = some (rowD false (row w 0)) := getRow (s := 0) W.pos
  have itR : ∀ ro, itemsD (rowD false ro) = some (ro.map (moveD false)) := fun _ => rfl
  have lenR : ∀ ro ∈ w.steps, (ro.map (moveD false)).length = wide := fun ro h => by rw [List.length_map]; exact W.wid _ h
  refine ex_seq (ex_ifF (evt_to (evt_or (evt_not (evt_test (ev_chain (g := fun i j => decide (i ≤ j)) (g' := fun i j => decide (i ≤ j)) ev_int (elen (eix (ev_v rfl) ev_int g1) (itR _)) fun _ => ev_int))) fun _ => evt_not (evt_b (b := true) (ev_allT (iseq (ev_v rfl) itS) zS fun i d hd => ⟨_, _, evg_name, fun j h => h, ?_⟩))) ?_) ex_next) ?_
  · obtain ⟨ro, hro, rfl⟩ := map_at hd
    refine ev_to (ev_eqD (elen (ev_v rfl) (itR ro)) (elen (eix (ev_v rfl) ev_int g1) (itR _)) rfl rfl) ?_
    rw [lenR ro (mem_at hro), lenR _ (row_mem W.pos), eqv_int]
  · rw [lenR _ (row_mem W.pos), decide_eq_true (show (1 : Int) ≤ (wide : Int) by have := W.w1; omega), decide_eq_true (show (wide : Int) ≤ 3 by have := W.w3; omega)]
    rfl
  -- all moves
  refine ex_seq (ex_setD (x := .list (w.steps.map fun ro => ro.map (moveD false)).flatten) (ev_lc2 _ (iseq (ev_v rfl) itS) (by rw [List.length_map, List.length_map]) (line_of (by rw [rows_len W _ W.wid]; have := W.few; have := W.w3; have h1 : w.steps.length * wide ≤ 1000 * 3 := Nat.mul_le_mul W.few W.w3; omega)) fun i d es hd hes => ?_)) ?_
  · obtain ⟨ro, hro, rfl⟩ := map_at hd
    obtain ⟨ro', hro', rfl⟩ := map_at hes
    rw [hro] at hro'
    cases hro'
    refine ⟨_, _, evg_name, fun j h => by simp at h; subst h; decide, fun n s h => ?_, iseq (ev_v rfl) (itR ro), fun k e he => ⟨_, _, evg_name, fun j h => h, ev_v rfl⟩⟩
    match n, h with
    | 0, h => cases h; rfl
    | 1, h => cases h; rfl
    | 2, h => cases h; rfl
    | 3, h => cases h; rfl
    | 4, h => cases h; rfl
    | 5, h => cases h; rfl
  refine ex_ret (ev_andV (b := true) (c := true) (ev_allT (iseq (ev_v rfl) rfl) (line_of (by rw [rows_len W _ W.wid]; have h1 : w.steps.length * wide ≤ 1000 * 3 := Nat.mul_le_mul W.few W.w3; omega)) fun i d hd => ?_) fun _ => ev_allT (iseq (ev_v rfl) itY) zY fun i d hd => ?_)
  · obtain ⟨l, hl, hdl⟩ := List.mem_flatten.mp (mem_at hd)
    obtain ⟨ro, hro, rfl⟩ := List.mem_map.mp hl
    obtain ⟨m, hm, rfl⟩ := List.mem_map.mp hdl
    have h1 := W.way _ hro _ hm
    refine ⟨_, _, evg_name, fun j h => h, ev_call (eva_cons (x := .int (w.steps.length : Int)) (ev_to (elen (ev_v rfl) itS) (by rw [lenS])) (eva_cons (ev_v rfl) eva_nil)) ⟨w.steps.length, m, W.sta _ hro _ hm, h1.1, h1.2, rfl, rfl⟩⟩
  · obtain ⟨o, ho, rfl⟩ := map_at hd
    exact ⟨_, _, evg_name, fun j h => h, ev_call (eva_cons (ev_v rfl) eva_nil) ⟨o, hsay o (mem_at ho), rfl, rfl⟩⟩
/-! ### goes_on -/
def goesB (w : Wk) : Bool := (w.steps.map fun ro => (ro.map fun m => decide (m.2 = 1)).all id).all id
def RGoesOn (ds : List PyData) (r : PyData) : Prop := ∃ (w : Wk) (wide : Nat), WOk w wide ∧ ds = [walkD false w] ∧ r = .bool (goesB w)
theorem sc_goes_on : FnScope ["walker", "row", "_", "way"] ["walker"] (defScope (top 11)) := ⟨rfl, rfl, rfl, by decide +kernel, rfl, by decide +kernel, by decide +kernel⟩
theorem eqv_int2 (i j : Int) : PyData.eqv (.int i) (.int j) = decide (i = j) := by
  show (i == j) = _
  by_cases h : i = j
  · subst h; simp
  · simp [h]
theorem ok_goes_on (T : Tx mg) (F : Def K mg "goes_on" ["walker"] (top 11)) : Cal P w K mg base "goes_on" ["walker"] 1 (spD RGoesOn) := by
  have sc := sc_goes_on
  refine def_ok F sc (fun ds r h => ?_) fun f cdv A outer s H E ds r hr h => ?_
  · obtain ⟨_, _, _, rfl, _⟩ := h
    rfl
  obtain ⟨w, wide, W, rfl, rfl⟩ := h
  refine ⟨_, (pss_one (ps_ret (pe_callB (allK K rfl) rfl T.all (by decide +kernel) (pa_cons (pe_lc (own := [("row", 1)]) rfl sc.nd (pi_seqK K (pe_ix (ixK K) (pv 0) pe_int (fun _ _ => rfl))) (blkOk_by (by rfl)) (fun _ _ _ _ _ => (pg_name (i := 1) sc.nd rfl (Or.inl rfl))) (fun _ _ _ _ _ => pts_nil) (fun _ _ _ _ _ => (pe_callB (allK K rfl) rfl T.all (by decide +kernel) (pa_cons (pe_lc (own := [("_", 2), ("way", 3)]) rfl sc.nd (pi_seqK K (pv 1)) (blkOk_by (by rfl)) (fun _ _ _ _ _ => (pg_seqK K 2 rfl (pgs_cons (pg_name (i := 2) sc.nd rfl (Or.inl rfl)) (pgs_cons (pg_name (i := 3) sc.nd rfl (Or.inl rfl)) pgs_nil)))) (fun _ _ _ _ _ => pts_nil) (fun _ _ _ _ _ => (pe_cmpR (eqK K hr.units) (pv 3) pe_int (nomark _)))) pa_nil)))) pa_nil)))), ?_⟩
  have g0 : getD (walkD false w) 0 = some (stepsD false w) := getW0
  refine ex_ret (ev_allB (w.steps.map fun ro => (ro.map fun m => decide (m.2 = 1)).all id) (iseq (eix (ev_v rfl) ev_int g0) (rfl : itemsD (stepsD false w) = some (w.steps.map (rowD false)))) (by rw [List.length_map, List.length_map]) (line_of (by rw [List.length_map]; have := W.few; omega)) fun i d b hd hb => ?_)
  obtain ⟨ro, hro, rfl⟩ := map_at hd
  obtain ⟨ro', hro', rfl⟩ := map_at hb
  rw [hro] at hro'
  cases hro'
  refine ⟨_, _, evg_name, fun j h => h, ev_allB (ro.map fun m => decide (m.2 = 1)) (iseq (ev_v rfl) (rfl : itemsD (rowD false ro) = some (ro.map (moveD false)))) (by rw [List.length_map, List.length_map]) (line_of (by rw [List.length_map, W.wid _ (mem_at hro)]; have := W.w3; omega)) fun j d b hd hb => ?_⟩
  obtain ⟨m, hm, rfl⟩ := map_at hd
  obtain ⟨m', hm', rfl⟩ := map_at hb
  rw [hm] at hm'
  cases hm'
  refine ⟨_, _, gseq itMove (evgs_cons evg_name (evgs_cons evg_name evgs_nil)) rfl, fun j h => h, ev_to (ev_eqD (ev_v rfl) ev_int rfl rfl) ?_⟩
  rw [eqv_int2]
/-! ### mirrored_walker -/
def RMirrored (ds : List PyData) (r : PyData) : Prop := ∃ (k : Bool) (w : Wk) (wide : Nat), WOk w wide ∧ ds = [walkD k w] ∧ r = walkD false (mirW w)
theorem sc_mirrored_walker : FnScope ["walker", "steps", "says", "row", "state", "way"] ["walker"] (defScope (top 12)) := ⟨rfl, rfl, rfl, by decide +kernel, rfl, by decide +kernel, by decide +kernel⟩
theorem ok_mirrored_walker (T : Tx mg) (F : Def K mg "mirrored_walker" ["walker"] (top 12)) (ctuple_of : Cal P w K mg base "tuple_of" ["thing"] 5 (spD (RT 5))) : Cal P w K mg base "mirrored_walker" ["walker"] 6 (spD RMirrored) := by
  have sc := sc_mirrored_walker
  refine def_ok F sc (fun ds r h => ?_) fun f cdv A outer s H E ds r hr h => ?_
  · obtain ⟨_, _, _, _, rfl, _⟩ := h
    rfl
  obtain ⟨k, w, wide, W, rfl, rfl⟩ := h
  refine ⟨_, (pss_cons (ps_asg (pe_cal ctuple_of (hr.mono (by decide)) rfl (pa_cons (pv 0) pa_nil)) (pg_seqK K 2 rfl (pgs_cons (pg_name (i := 1) sc.nd rfl (Or.inl rfl)) (pgs_cons (pg_name (i := 2) sc.nd rfl (Or.inl rfl)) pgs_nil))))
    (pss_one (ps_ret (pe_tup (pa_cons (pe_callTy (tupK K) rfl T.tuple PyProof.Rows.boot_tuple (pa_cons (pe_lc (own := [("row", 3)]) rfl sc.nd (pi_seqK K (pv 1)) (blkOk_by (by rfl)) (fun _ _ _ _ _ => (pg_name (i := 3) sc.nd rfl (Or.inl rfl))) (fun _ _ _ _ _ => pts_nil) (fun _ _ _ _ _ => (pe_callTy (tupK K) rfl T.tuple PyProof.Rows.boot_tuple (pa_cons (pe_lc (own := [("state", 4), ("way", 5)]) rfl sc.nd (pi_seqK K (pv 3)) (blkOk_by (by rfl)) (fun _ _ _ _ _ => (pg_seqK K 2 rfl (pgs_cons (pg_name (i := 4) sc.nd rfl (Or.inl rfl)) (pgs_cons (pg_name (i := 5) sc.nd rfl (Or.inl rfl)) pgs_nil)))) (fun _ _ _ _ _ => pts_nil) (fun _ _ _ _ _ => (pe_tup (pa_cons (pv 4) (pa_cons (pe_un un_neg (pv 5)) pa_nil))))) pa_nil)))) pa_nil)) (pa_cons (pv 2) pa_nil)))))), ?_⟩
  refine ex_seq (ex_asg (x := walkD false w) (ev_call (eva_cons (ev_v rfl) eva_nil) ⟨walkD k w, pl_walk W k, rfl, (toT_walk k w).symm⟩) (gseq (ds := [stepsD false w, saysD false w]) rfl (evgs_cons evg_name (evgs_cons evg_name evgs_nil)) rfl)) ?_
  refine ex_ret (x := .tuple [.tuple ((mirW w).steps.map (rowD false)), saysD false w]) (etupl (eva_cons (etup (y := .list ((mirW w).steps.map (rowD false))) (ev_lc _ (iseq (ev_v rfl) (rfl : itemsD (stepsD false w) = some (w.steps.map (rowD false)))) (by show ((w.steps.map _).map _).length = _; rw [List.length_map, List.length_map, List.length_map]) (line_of (by rw [List.length_map]; have := W.few; omega)) fun i d e hd he => ?_) rfl) (eva_cons (ev_v rfl) eva_nil)) rfl)
  obtain ⟨ro, hro, rfl⟩ := map_at hd
  have he' : ((w.steps.map fun ro => ro.map mirM).map (rowD false))[i]? = some e := he
  obtain ⟨ro', hro', rfl⟩ := map_at he'
  obtain ⟨ro2, hro2, rfl⟩ := map_at hro'
  rw [hro] at hro2
  cases hro2
  refine ⟨_, _, evg_name, fun j h => h, etup (y := .list ((ro.map mirM).map (moveD false))) (ev_lc _ (iseq (ev_v rfl) (rfl : itemsD (rowD false ro) = some (ro.map (moveD false)))) (by rw [List.length_map, List.length_map, List.length_map]) (line_of (by rw [List.length_map, W.wid _ (mem_at hro)]; have := W.w3; omega)) fun j d e hd he => ?_) rfl⟩
  obtain ⟨m, hm, rfl⟩ := map_at hd
  obtain ⟨m', hm', rfl⟩ := map_at he
  obtain ⟨m2, hm2, rfl⟩ := map_at hm'
  rw [hm] at hm2
  cases hm2
  exact ⟨_, _, gseq itMove (evgs_cons evg_name (evgs_cons evg_name evgs_nil)) rfl, fun j h => h, etupl (eva_cons (ev_v rfl) (eva_cons (ev_neg (ev_v rfl)) eva_nil)) rfl⟩
end
end L3
/-! W6: the walk of _law_same, _law_lists. -/
namespace L3
open PySem PySem.Spec PyProof.Rows L2
local macro_rules | `(tactic| walk_at "E") => `(tactic| first
  | (with_reducible exact ev_int)
  | (with_reducible exact ev_bl)
  | (with_reducible exact ev_non)
  | ((with_reducible apply ev_v); exact rfl)
  | ((with_reducible apply eix) <;> walk_at "E")
  | ((with_reducible apply elen) <;> walk_at "E")
  | ((with_reducible apply etup) <;> walk_at "E")
  | ((with_reducible apply etupl) <;> walk_at "E")
  | ((with_reducible apply elst) <;> walk_at "E")
  | (with_reducible exact eva_nil)
  | ((with_reducible apply eva_cons) <;> walk_at "E")
  | ((with_reducible apply ev_I0i) <;> walk_at "E")
  | ((with_reducible apply ev_I0b) <;> walk_at "E")
  | ((with_reducible apply ev_Ii) <;> walk_at "E")
  | ((with_reducible apply ev_neg) <;> walk_at "E")
  | ((with_reducible apply ev_isi2) <;> walk_at "E")
  | ((with_reducible apply ev_isi) <;> walk_at "E")
  | ((with_reducible apply ev_int1) <;> walk_at "E")
  | ((with_reducible apply evt_test) <;> walk_at "E")
  | ((with_reducible apply evt_b) <;> walk_at "E")
  | ((with_reducible apply evt_not) <;> walk_at "E")
  | ((with_reducible apply ev_isN) <;> walk_at "E")
  | ((with_reducible apply ev_notN) <;> walk_at "E")
  | ((with_reducible apply ev_call) <;> walk_at "E")
  | ((with_reducible apply ev_eqD) <;> walk_at "E")
  | ((with_reducible apply ev_neD) <;> walk_at "E")
  | ((with_reducible apply elstM) <;> walk_at "E")
  | ((with_reducible apply ex_seq) <;> walk_at "E")
  | ((with_reducible apply ex_retE) <;> walk_at "E")
  | ((with_reducible apply ex_asg) <;> walk_at "E")
  | ((with_reducible apply ex_setD) <;> walk_at "E")
  | (with_reducible exact ex_next)
  | (with_reducible exact evg_name)
  | (with_reducible exact evgs_nil)
  | ((with_reducible apply evgs_cons) <;> walk_at "E")
  | ((with_reducible apply gseq) <;> walk_at "E")
  | ((with_reducible apply ev_slice) <;> walk_at "E")
  | (with_reducible exact evo_none)
  | ((with_reducible apply evo_some) <;> walk_at "E")
  | (show (_ : Prop); assumption)
  | exact rfl
  | skip)
local macro_rules | `(tactic| walk_at "V") => `(tactic| ((apply ev_to) <;> walk_at "E"))
section
variable {P : Program} {w : World} {K : PySem.W.Frag} {mg : Str → Option Value} {base : Heap}
/-! ### _law_lists -/
def RLists : Nat → List PyData → PyData → Prop
  | 0, _, _ => False
  | n + 1, ds, r => ∃ d, Pl n d ∧ ds = [d] ∧ r = toL n d
theorem sc__law_lists : FnScope ["_law_matter", "_law_own"] ["_law_matter"] (defScope (top 28)) := ⟨rfl, rfl, rfl, by decide +kernel, rfl, by decide +kernel, by decide +kernel⟩
theorem ok__law_lists (T : Tx mg) (F : Def K mg "_law_lists" ["_law_matter"] (top 28)) : ∀ n, Cal P w K mg base "_law_lists" ["_law_matter"] n (spD (RLists n))
  | 0 => cal_never F fun _ _ h => h
  | n + 1 => by
    have c_law_lists := ok__law_lists T F n
    have sc := sc__law_lists
    refine def_ok F sc (fun ds r h => ?_) fun f cdv A outer s H E ds r hr h => ?_
    · obtain ⟨_, _, rfl, _⟩ := h
      rfl
    obtain ⟨d, hd, rfl, rfl⟩ := h
    refine ⟨_, (pss_one (ps_ret (pe_ifExp (pt_val (pe_callB (isiTK K) rfl T.isinstance (by decide +kernel) (pa_cons (pv 0) (pa_cons (pe_tup (pa_cons (pe_bltn (v := .ty "list") rfl T.list PyProof.Rows.boot_list rfl) (pa_cons (pe_bltn (v := .ty "tuple") rfl T.tuple PyProof.Rows.boot_tuple rfl) pa_nil))) pa_nil)))) (pe_lc (own := [("_law_own", 1)]) rfl sc.nd (pi_seqK K (pv 0)) (blkOk_by (by rfl)) (fun _ _ _ _ _ => (pg_name (i := 1) sc.nd rfl (Or.inl rfl))) (fun _ _ _ _ _ => pts_nil) (fun _ _ _ _ _ => (pe_cal c_law_lists hr rfl (pa_cons (pv 1) pa_nil)))) (pv 0)))), ?_⟩
    have seq : ∀ (m : Nat) (k : Bool) (xs : List PyData), n = m + 1 → d = sq k xs → xs.length ≤ 4000000 → (∀ x ∈ xs, Pl m x) → EvD (tLc (iSeq K (tVar 0)) (gName 1) tYes (tCall (spD (RLists n)) [] E0 (tCons (tVar 1) tNil)) [1]) (stD ["_law_matter", "_law_own"] [d]) (toL n d) := fun m k xs en ed hl hx => by
      subst en ed
      rw [toL_sq]
      refine ev_lc _ (iseq (ev_v rfl) (sq_items _ _)) (by rw [List.length_map]) (line_of hl) fun i x e hx' he => ?_
      rw [List.getElem?_map, hx'] at he
      cases he
      exact ⟨_, _, evg_name, fun j h => h, ev_call (eva_cons (ev_v rfl) eva_nil) ⟨x, hx x (List.mem_of_getElem? hx'), rfl, rfl⟩⟩
    cases d with
    | none =>
      refine ex_ret (ev_if (evt_b (ev_isi2 (x := .none) (T := "list") (U := "tuple") (ev_v rfl) k_nl k_nt)) (fun e => by cases e) fun _ => ev_to (ev_v rfl) ?_)
      cases n <;> rfl
    | bool b =>
      refine ex_ret (ev_if (evt_b (ev_isi2 (x := .bool b) (T := "list") (U := "tuple") (ev_v rfl) k_bl k_bt)) (fun e => by cases e) fun _ => ev_to (ev_v rfl) ?_)
      cases n <;> rfl
    | int i =>
      refine ex_ret (ev_if (evt_b (ev_isi2 (x := .int i) (T := "list") (U := "tuple") (ev_v rfl) k_il k_it)) (fun e => by cases e) fun _ => ev_to (ev_v rfl) ?_)
      cases n <;> rfl
    | str x => cases n <;> exact hd.elim
    | dict x => cases n <;> exact hd.elim
    | list xs =>
      cases n with
      | zero => exact hd.elim
      | succ m => exact ex_ret (ev_if (evt_b (ev_isi2 (x := .list xs) (T := "list") (U := "tuple") (ev_v rfl) k_ll k_lt)) (fun _ => seq m true xs rfl rfl hd.1 hd.2) fun e => by cases e)
    | tuple xs =>
      cases n with
      | zero => exact hd.elim
      | succ m => exact ex_ret (ev_if (evt_b (ev_isi2 (x := .tuple xs) (T := "list") (U := "tuple") (ev_v rfl) k_tl k_tt)) (fun _ => seq m false xs rfl rfl hd.1 hd.2) fun e => by cases e)
/-! ### _law_same -/
def RSame : Nat → List PyData → PyData → Prop
  | 0, _, _ => False
  | n + 1, ds, r => ∃ d, Pl n d ∧ ds = [d, d] ∧ r = .bool true
theorem sc__law_same : FnScope ["_law_got", "_law_goal", "_law_mine", "_law_own"] ["_law_got", "_law_goal"] (defScope (top 27)) := ⟨rfl, rfl, rfl, by decide +kernel, rfl, by decide +kernel, by decide +kernel⟩
theorem eqv_bl (a b : Bool) : PyData.eqv (.bool a) (.bool b) = (a == b) := rfl
theorem ok__law_same (T : Tx mg) (F : Def K mg "_law_same" ["_law_got", "_law_goal"] (top 27)) : ∀ n, Cal P w K mg base "_law_same" ["_law_got", "_law_goal"] n (spD (RSame n))
  | 0 => cal_never F fun _ _ h => h
  | n + 1 => by
    have c_law_same := ok__law_same T F n
    have sc := sc__law_same
    refine def_ok F sc (fun ds r h => ?_) fun f cdv A outer s H E ds r hr h => ?_
    · obtain ⟨_, _, rfl, _⟩ := h
      rfl
    obtain ⟨d, hd, rfl, rfl⟩ := h
    refine ⟨_, (pss_cons (ps_if (pt_val (pe_callB (isiTK K) rfl T.isinstance (by decide +kernel) (pa_cons (pv 1) (pa_cons (pe_tup (pa_cons (pe_bltn (v := .ty "list") rfl T.list PyProof.Rows.boot_list rfl) (pa_cons (pe_bltn (v := .ty "tuple") rfl T.tuple PyProof.Rows.boot_tuple rfl) pa_nil))) pa_nil)))) (pss_cons (ps_if (PW.pt (pw_or (pt_cmpR (neK K hr.units) (pe_callB (isiK K) rfl T.isinstance (by decide +kernel) (pa_cons (pv 0) (pa_cons (pe_bltn (v := .ty "list") rfl T.list PyProof.Rows.boot_list rfl) pa_nil))) (pe_callB (isiK K) rfl T.isinstance (by decide +kernel) (pa_cons (pv 1) (pa_cons (pe_bltn (v := .ty "list") rfl T.list PyProof.Rows.boot_list rfl) pa_nil))) (nomark _)) (pw_or1 (pt_cmpR (neK K hr.units) (pe_callB (isiK K) rfl T.isinstance (by decide +kernel) (pa_cons (pv 0) (pa_cons (pe_bltn (v := .ty "tuple") rfl T.tuple PyProof.Rows.boot_tuple rfl) pa_nil))) (pe_callB (isiK K) rfl T.isinstance (by decide +kernel) (pa_cons (pv 1) (pa_cons (pe_bltn (v := .ty "tuple") rfl T.tuple PyProof.Rows.boot_tuple rfl) pa_nil))) (nomark _))))) (pss_one (ps_ret pe_bl)) pss_nil)
      (pss_one (ps_ret (pe_and (pe_cmpR (eqK K hr.units) (pe_callB (lenK K) rfl T.len PySem.boot_len (pa_cons (pv 0) pa_nil)) (pe_callB (lenK K) rfl T.len PySem.boot_len (pa_cons (pv 1) pa_nil)) (nomark _)) (pe_one (pe_callB (allK K rfl) rfl T.all (by decide +kernel) (pa_cons (pe_lc (own := [("_law_mine", 2), ("_law_own", 3)]) rfl sc.nd (pi_zipK K rfl T.zip (pa_cons (pv 0) (pa_cons (pv 1) pa_nil))) (blkOk_by (by rfl)) (fun _ _ _ _ _ => (pg_seqK K 2 rfl (pgs_cons (pg_name (i := 2) sc.nd rfl (Or.inl rfl)) (pgs_cons (pg_name (i := 3) sc.nd rfl (Or.inl rfl)) pgs_nil)))) (fun _ _ _ _ _ => pts_nil) (fun _ _ _ _ _ => (pe_cal c_law_same hr rfl (pa_cons (pv 2) (pa_cons (pv 3) pa_nil))))) pa_nil))))))) pss_nil)
    (pss_cons (ps_if (PW.pt (pw_or (pt_cmp (pc_isN (pv 1)) rfl) (pw_or1 (pt_val (pe_callB (isiTK K) rfl T.isinstance (by decide +kernel) (pa_cons (pv 1) (pa_cons (pe_tup (pa_cons (pe_bltn (v := .ty "bool") rfl T.bool PyProof.Rows.boot_bool rfl) (pa_cons (pe_bltn (v := .ty "str") rfl T.str PyProof.Rows.boot_str rfl) pa_nil))) pa_nil))))))) (pss_one (ps_ret (pe_and (pe_cmpR (eqK K hr.units) (pv 0) (pv 1) (nomark _)) (pe_and (pe_cmpR (eqK K hr.units) (pe_callB (isiK K) rfl T.isinstance (by decide +kernel) (pa_cons (pv 0) (pa_cons (pe_bltn (v := .ty "bool") rfl T.bool PyProof.Rows.boot_bool rfl) pa_nil))) (pe_callB (isiK K) rfl T.isinstance (by decide +kernel) (pa_cons (pv 1) (pa_cons (pe_bltn (v := .ty "bool") rfl T.bool PyProof.Rows.boot_bool rfl) pa_nil))) (nomark _)) (pe_one (pe_cmpR (eqK K hr.units) (pe_cmp (pc_isN (pv 0)) rfl) (pe_cmp (pc_isN (pv 1)) rfl) (nomark _))))))) pss_nil)
    (pss_one (ps_ret (pe_and (pe_callB (isiK K) rfl T.isinstance (by decide +kernel) (pa_cons (pv 0) (pa_cons (pe_bltn (v := .ty "int") rfl T.int PyProof.Rows.boot_int rfl) pa_nil))) (pe_and (pe_not (pe_callB (isiK K) rfl T.isinstance (by decide +kernel) (pa_cons (pv 0) (pa_cons (pe_bltn (v := .ty "bool") rfl T.bool PyProof.Rows.boot_bool rfl) pa_nil)))) (pe_one (pe_cmpR (eqK K hr.units) (pv 0) (pv 1) (nomark _))))))))), ?_⟩
    -- how a class is asked of both
    have ask : ∀ (U : String) (b : Bool), kitB (tyD d) U = some b → EvD (tOp (rEqD K) (tCB (rIsi K) (tCons (tVar 0) (tCons (tC (.ty U)) tNil))) (tCB (rIsi K) (tCons (tVar 1) (tCons (tC (.ty U)) tNil)))) (stD ["_law_got", "_law_goal", "_law_mine", "_law_own"] [d, d]) (.bool true) := fun U b hk =>
      ev_to (ev_eqD (x := .bool b) (y := .bool b) (ev_isi (ev_v rfl) hk) (ev_isi (ev_v rfl) hk) rfl rfl) (by rw [eqv_bl, beq_self_eq_true])
    have askN : ∀ (U : String) (b : Bool), kitB (tyD d) U = some b → EvD (tOp (rNeD K) (tCB (rIsi K) (tCons (tVar 0) (tCons (tC (.ty U)) tNil))) (tCB (rIsi K) (tCons (tVar 1) (tCons (tC (.ty U)) tNil)))) (stD ["_law_got", "_law_goal", "_law_mine", "_law_own"] [d, d]) (.bool false) := fun U b hk =>
      ev_to (ev_neD (x := .bool b) (y := .bool b) (ev_isi (ev_v rfl) hk) (ev_isi (ev_v rfl) hk) rfl rfl) (by rw [eqv_bl, beq_self_eq_true]; rfl)
    have nn : EvD (tOp (rEqD K) (tIsN (tVar 0)) (tIsN (tVar 1))) (stD ["_law_got", "_law_goal", "_law_mine", "_law_own"] [d, d]) (.bool true) :=
      ev_to (ev_eqD (ev_isN (ev_v rfl)) (ev_isN (ev_v rfl)) rfl rfl) (by rw [eqv_bl, beq_self_eq_true])
    have seq : ∀ (m : Nat) (k : Bool) (xs : List PyData), n = m + 1 → d = sq k xs → xs.length ≤ 4000000 → (∀ x ∈ xs, Pl m x) → EvD (tAndV (tOp (rEqD K) (tCB (rLen K) (tCons (tVar 0) tNil)) (tCB (rLen K) (tCons (tVar 1) tNil)))
        (tCB (rAll K) (tCons (tLc (RZ.iZipA K (tCons (tVar 0) (tCons (tVar 1) tNil))) (gSeq K 2 (gCons (gName 2) (gCons (gName 3) gNil))) tYes (tCall (spD (RSame n)) [] E0 (tCons (tVar 2) (tCons (tVar 3) tNil))) [2, 3]) tNil))) (stD ["_law_got", "_law_goal", "_law_mine", "_law_own"] [d, d]) (.bool true) := fun m k xs en ed hl hx => by
      subst en ed
      refine ev_andV (b := true) (c := true) (ev_to (ev_eqD (elen (ev_v rfl) (sq_items _ _)) (elen (ev_v rfl) (sq_items _ _)) rfl rfl) (by rw [eqv_int])) fun _ => ?_
      refine ev_allT (evi_zip (k := k) (ds := xs) (es := xs) (eva_cons (ev_v rfl) (eva_cons (ev_v rfl) eva_nil)) rfl) (line_of (by rw [List.length_map, List.length_zip, Nat.min_self]; exact hl)) fun i y hd' => ?_
      obtain ⟨p, hp, rfl⟩ := map_at hd'
      obtain ⟨p1, p2⟩ := p
      have h12 := List.getElem?_zip_eq_some.mp hp
      have e12 : p1 = p2 := Option.some.inj (h12.1.symm.trans h12.2)
      subst e12
      exact ⟨_, _, gseq (two_ _ _) (evgs_cons evg_name (evgs_cons evg_name evgs_nil)) rfl, fun j h => h, ev_call (eva_cons (ev_v rfl) (eva_cons (ev_v rfl) eva_nil)) ⟨p1, hx p1 (mem_at h12.1), rfl, rfl⟩⟩
    cases d with
    | none =>
      refine ex_seq (ex_ifF (evt_b (ev_isi2 (x := .none) (T := "list") (U := "tuple") (ev_v rfl) k_nl k_nt)) ex_next) ?_
      refine ex_seqR (ex_ifT (evt_to (evt_or (evt_b (ev_isN (x := .none) (ev_v rfl))) fun _ => evt_b (ev_isi2 (x := .none) (T := "bool") (U := "str") (ev_v rfl) k_nb k_ns)) rfl) ?_)
      exact ex_ret (ev_andV (b := true) (c := true) (ev_to (ev_eqD (x := .none) (y := .none) (ev_v rfl) (ev_v rfl) rfl rfl) rfl) fun _ => ev_andV (b := true) (c := true) (ask "bool" false k_nb) fun _ => nn)
    | bool b =>
      refine ex_seq (ex_ifF (evt_b (ev_isi2 (x := .bool b) (T := "list") (U := "tuple") (ev_v rfl) k_bl k_bt)) ex_next) ?_
      refine ex_seqR (ex_ifT (evt_to (evt_or (evt_b (ev_isN (x := .bool b) (ev_v rfl))) fun _ => evt_b (ev_isi2 (x := .bool b) (T := "bool") (U := "str") (ev_v rfl) k_bb k_bs)) rfl) ?_)
      exact ex_ret (ev_andV (b := true) (c := true) (ev_to (ev_eqD (x := .bool b) (y := .bool b) (ev_v rfl) (ev_v rfl) rfl rfl) (by rw [eqv_bl, beq_self_eq_true])) fun _ => ev_andV (b := true) (c := true) (ask "bool" true k_bb) fun _ => nn)
    | int i =>
      refine ex_seq (ex_ifF (evt_b (ev_isi2 (x := .int i) (T := "list") (U := "tuple") (ev_v rfl) k_il k_it)) ex_next) ?_
      refine ex_seq (ex_ifF (evt_to (evt_or (evt_b (ev_isN (x := .int i) (ev_v rfl))) fun _ => evt_b (ev_isi2 (x := .int i) (T := "bool") (U := "str") (ev_v rfl) k_ib k_is_)) rfl) ex_next) ?_
      exact ex_ret (ev_andV (b := true) (c := true) (ev_isi (x := .int i) (ev_v rfl) k_ii) fun _ => ev_andV (b := true) (c := true) (ev_notV (b := false) (ev_isi (x := .int i) (ev_v rfl) k_ib)) fun _ => ev_to (ev_eqD (x := .int i) (y := .int i) (ev_v rfl) (ev_v rfl) rfl rfl) (by rw [eqv_int]))
    | str x => cases n <;> exact hd.elim
    | dict x => cases n <;> exact hd.elim
    | list xs =>
      cases n with
      | zero => exact hd.elim
      | succ m =>
        refine ex_seqR (ex_ifT (evt_b (ev_isi2 (x := .list xs) (T := "list") (U := "tuple") (ev_v rfl) k_ll k_lt)) ?_)
        exact ex_seq (ex_ifF (evt_to (evt_or (evt_test (askN "list" true k_ll)) fun _ => evt_test (askN "tuple" false k_lt)) rfl) ex_next) (ex_ret (seq m true xs rfl rfl hd.1 hd.2))
    | tuple xs =>
      cases n with
      | zero => exact hd.elim
      | succ m =>
        refine ex_seqR (ex_ifT (evt_b (ev_isi2 (x := .tuple xs) (T := "list") (U := "tuple") (ev_v rfl) k_tl k_tt)) ?_)
        exact ex_seq (ex_ifF (evt_to (evt_or (evt_test (askN "list" false k_tl)) fun _ => evt_test (askN "tuple" true k_tt)) rfl) ex_next) (ex_ret (seq m false xs rfl rfl hd.1 hd.2))
end
end L3
/-! W7: the walk of the draws. -/
namespace L3
open PySem PySem.Spec PyProof.Rows L2
local macro_rules | `(tactic| walk_at "E") => `(tactic| first
  | (with_reducible exact ev_int)
  | (with_reducible exact ev_bl)
  | (with_reducible exact ev_non)
  | ((with_reducible apply ev_v); exact rfl)
  | ((with_reducible apply eix) <;> walk_at "E")
  | ((with_reducible apply elen) <;> walk_at "E")
  | ((with_reducible apply etup) <;> walk_at "E")
  | ((with_reducible apply etupl) <;> walk_at "E")
  | ((with_reducible apply elst) <;> walk_at "E")
  | (with_reducible exact eva_nil)
  | ((with_reducible apply eva_cons) <;> walk_at "E")
  | ((with_reducible apply ev_I0i) <;> walk_at "E")
  | ((with_reducible apply ev_I0b) <;> walk_at "E")
  | ((with_reducible apply ev_Ii) <;> walk_at "E")
  | ((with_reducible apply ev_neg) <;> walk_at "E")
  | ((with_reducible apply ev_isi2) <;> walk_at "E")
  | ((with_reducible apply ev_isi) <;> walk_at "E")
  | ((with_reducible apply ev_int1) <;> walk_at "E")
  | ((with_reducible apply evt_test) <;> walk_at "E")
  | ((with_reducible apply evt_b) <;> walk_at "E")
  | ((with_reducible apply evt_not) <;> walk_at "E")
  | ((with_reducible apply ev_isN) <;> walk_at "E")
  | ((with_reducible apply ev_notN) <;> walk_at "E")
  | ((with_reducible apply ev_call) <;> walk_at "E")
  | ((with_reducible apply ev_eqD) <;> walk_at "E")
  | ((with_reducible apply ev_neD) <;> walk_at "E")
  | ((with_reducible apply elstM) <;> walk_at "E")
  | ((with_reducible apply ex_seq) <;> walk_at "E")
  | ((with_reducible apply ex_retE) <;> walk_at "E")
  | ((with_reducible apply ex_asg) <;> walk_at "E")
  | ((with_reducible apply ex_setD) <;> walk_at "E")
  | (with_reducible exact ex_next)
  | (with_reducible exact evg_name)
  | (with_reducible exact evgs_nil)
  | ((with_reducible apply evgs_cons) <;> walk_at "E")
  | ((with_reducible apply gseq) <;> walk_at "E")
  | ((with_reducible apply ev_slice) <;> walk_at "E")
  | (with_reducible exact evo_none)
  | ((with_reducible apply evo_some) <;> walk_at "E")
  | (show (_ : Prop); assumption)
  | exact rfl
  | skip)
local macro_rules | `(tactic| walk_at "V") => `(tactic| ((apply ev_to) <;> walk_at "E"))
/-! ### an expression that changes nothing -/
def Rd1 (t : TE) (σ : L2.St) (H : Hp) (v : V) : Prop := ∀ Q : VK, Q v H → t σ H Q
section
variable {σ : L2.St} {H : Hp} {K : PySem.W.Frag} {ta tb : TE} {i j : Int}
theorem rd_v {n : Nat} {v : V} (h : σ[n]? = some (some v)) : Rd1 (tVar n) σ H v := fun Q q => ⟨v, h, q⟩
theorem rd_c {v : V} : Rd1 (tC v) σ H v := fun Q q => q
theorem rd_I0 {g : Int → Int → V} (ha : Rd1 ta σ H (.int i)) (hb : Rd1 tb σ H (.int j)) : Rd1 (tOp (rI0 g) ta tb) σ H (g i j) := fun Q q => ha _ (hb _ ⟨i, j, rfl, rfl, q⟩)
theorem rd_I {C : Int → Int → Prop} {g : Int → Int → V} (ha : Rd1 ta σ H (.int i)) (hb : Rd1 tb σ H (.int j)) (hc : C i j) : Rd1 (tOp (rI C g) ta tb) σ H (g i j) := fun Q q => ha _ (hb _ ⟨i, j, rfl, rfl, hc, q⟩)
theorem rd_I0i {g : Int → Int → Int} (ha : Rd1 ta σ H (.int i)) (hb : Rd1 tb σ H (.int j)) : Rd1 (tOp (rI0 fun i j => .int (g i j)) ta tb) σ H (.int (g i j)) := rd_I0 ha hb
theorem rd_Ii {C : Int → Int → Prop} {g : Int → Int → Int} (ha : Rd1 ta σ H (.int i)) (hb : Rd1 tb σ H (.int j)) (hc : C i j) : Rd1 (tOp (rI C fun i j => .int (g i j)) ta tb) σ H (.int (g i j)) := rd_I ha hb hc
theorem rd_ix {p : Addr} {xs : List V} {v : V} (ha : Rd1 ta σ H (.ref p)) (hb : Rd1 tb σ H (.int i)) (hp : H p = some (.lst xs)) (hx : atI xs i = some v) : Rd1 (tOp (rIx K) ta tb) σ H v := fun Q q => ha _ (hb _ (.inl ⟨p, xs, i, v, rfl, rfl, SqL.of hp, hx, q⟩))
theorem rd_int1 (ha : Rd1 ta σ H (.int i)) : Rd1 (tCB rInt1 (tCons ta tNil)) σ H (.int i) := fun Q q => ha _ (.inl ⟨i, rfl, q⟩)
end
section
variable {P : Program} {w : World} {K : PySem.W.Frag} {mg : Str → Option Value} {base : Heap}
/-! ### _law_take -/
/-- a number below b -/
def Blw (b : Nat) (x : PyData) : Prop := ∃ i : Int, x = .int i ∧ ∃ j : Nat, i = (j : Int) ∧ j < b
def RTake (ds : List PyData) (Po : PyData → Prop) (k : Nat) : Prop := ∃ b : Nat, 0 < b ∧ b < 1073741824 ∧ ds = [.int (b : Int)] ∧ Po = Blw b ∧ k = 1
theorem sc__law_take : FnScope ["_law_tin", "_law_below", "_law_drawn", "_law_once", "_law_broad", "_law_twice"] ["_law_tin", "_law_below"] (defScope (top 25)) := ⟨rfl, rfl, rfl, by decide +kernel, rfl, by decide +kernel, by decide +kernel⟩
theorem blw_mod (z : Int) {b : Nat} (h : 0 < b) : Blw b (.int (z % (b : Int))) := by
  have h1 := Int.emod_nonneg z (b := (b : Int)) (by omega)
  have h2 := Int.emod_lt_of_pos z (b := (b : Int)) (by omega)
  exact ⟨_, rfl, (z % (b : Int)).toNat, by omega, by omega⟩
/-- the list is written -/
theorem tin_wr {tn : Addr} {S H : Hp} {x y z : Int} (e : Same S H) (hS : S tn = none) (h : H tn = some (.lst [.int x, .int y, .int z])) (x' y' z' : Int) : XT tn S H S (upd H tn (.lst [.int x', .int y', .int z'])) :=
  xb_wr e hS (by rw [h]; intro q; cases q) (.inr rfl)
theorem ok__law_take (T : Tx mg) (F : Def K mg "_law_take" ["_law_tin", "_law_below"] (top 25)) : Cal P w K mg base "_law_take" ["_law_tin", "_law_below"] 1 (spT RTake) := by
  have sc := sc__law_take
  obtain ⟨f, fd, F0, hm, hbd⟩ := F.ex
  refine ⟨f, fd, F0.ok sc (fun vs H Q E h => ?_) (fun cdv A outer s H vs Q E hr h => ?_), hm, F0.kp, hbd⟩
  · obtain ⟨S, tn, c, ws, ds, P0, m, rfl, _, _, _, cc, ⟨b, _, _, rfl, _⟩, _⟩ := h
    rw [List.length_cons, cc.length]
    rfl
  obtain ⟨S, tn, c, ws, ds, P0, m, rfl, e, t, hc, cc, ⟨b, b0, b1, rfl, rfl, rfl⟩, q⟩ := h
  cases cc with
  | cons dv dn =>
  cases dn
  cases dv
  obtain ⟨x, y, z, hT, z0, zc⟩ := t.at_
  refine ⟨_, (pss_cons (ps_if (pt_cmpR op_gt (pe_ix (ixK K) (pv 0) pe_int (fun _ _ => rfl)) pe_int (nomark _)) (pss_cons (ps_set (i := 2) sc.nd rfl (Or.inl rfl) (pe_op op_mod (pe_callTy call_intX rfl T.int PyProof.Rows.boot_int (pa_cons (pe_ix (ixK K) (pv 0) pe_int (fun _ _ => rfl)) pa_nil)) (pv 1)))
      (pss_cons (ps_asg (pe_op op_fdiv (pe_ix (ixK K) (pv 0) pe_int (fun _ _ => rfl)) (pv 1)) (pg_sub (pv 0) pe_int set_list))
      (pss_one (ps_ret (pv 2))))) pss_nil)
    (pss_cons (ps_asg (pe_op op_add (pe_ix (ixK K) (pv 0) pe_int (fun _ _ => rfl)) pe_int) (pg_sub (pv 0) pe_int set_list))
    (pss_cons (ps_set (i := 3) sc.nd rfl (Or.inl rfl) (pe_op op_mod (pe_callTy call_intX rfl T.int PyProof.Rows.boot_int (pa_cons (pe_op op_mul (pe_op op_add (pe_ix (ixK K) (pv 0) pe_int (fun _ _ => rfl)) (pe_op op_mul pe_int (pe_ix (ixK K) (pv 0) pe_int (fun _ _ => rfl)))) (pe_op op_add pe_int (pe_ix (ixK K) (pv 0) pe_int (fun _ _ => rfl)))) pa_nil)) pe_int))
    (pss_cons (ps_set (i := 4) sc.nd rfl (Or.inl rfl) (pe_op op_add (pe_op op_mod (pe_callTy call_intX rfl T.int PyProof.Rows.boot_int (pa_cons (pv 3) pa_nil)) pe_int) pe_int))
    (pss_cons (ps_set (i := 5) sc.nd rfl (Or.inl rfl) (pe_op op_mod (pe_callTy call_intX rfl T.int PyProof.Rows.boot_int (pa_cons (pe_op op_mul (pe_op op_add (pe_op op_add (pv 3) (pe_ix (ixK K) (pv 0) pe_int (fun _ _ => rfl))) (pe_op op_fdiv (pe_ix (ixK K) (pv 0) pe_int (fun _ _ => rfl)) pe_int)) (pv 4)) pa_nil)) pe_int))
    (pss_one (ps_ret (pe_op op_mod (pe_callTy call_intX rfl T.int PyProof.Rows.boot_int (pa_cons (pe_op op_fdiv (pe_op op_mod (pe_callTy call_intX rfl T.int PyProof.Rows.boot_int (pa_cons (pe_op op_add (pe_op op_mul (pv 5) pe_int) (pv 3)) pa_nil)) pe_int) pe_int) pa_nil)) (pv 1))))))))), ?_⟩
  have b0' : (0 : Int) < (b : Int) := by omega
  have r0 : ∀ {σ : L2.St}, σ[0]? = some (some (.ref tn)) → Rd1 (tOp (rIx K) (tVar 0) (tC (.int 0))) σ H (.int x) := fun h => rd_ix (rd_v h) rd_c hT rfl
  -- if tin[0] > 0
  refine (rd_I0 (r0 rfl) rd_c) _ ⟨_, rfl, ?_⟩
  by_cases hx : 0 < x
  · rw [decide_eq_true hx]
    refine iteT ?_
    -- drawn = int(tin[0]) % below; tin[0] = tin[0] // below; return drawn
    refine (rd_Ii (rd_int1 (r0 rfl)) (rd_v rfl) b0') _ ?_
    refine (rd_Ii (r0 rfl) (rd_v rfl) (show CDiv x (b : Int) from ⟨b0', by omega⟩)) _ ⟨_, rfl, tn, _, 0, 0, rfl, rfl, hT, rfl, ?_⟩
    exact ⟨_, rfl, q _ S _ _ (blw_mod x b0) (tin_wr e t.st hT _ _ _) ⟨t.st, _, _, _, upd_same, z0, by omega⟩ (.int _)⟩
  · rw [decide_eq_false hx]
    refine iteF ?_
    -- tin[2] = tin[2] + 1
    refine (rd_I0i (rd_ix (i := 2) (rd_v rfl) rd_c hT rfl) rd_c) _ ⟨_, rfl, tn, _, 2, 2, rfl, rfl, hT, rfl, ?_⟩
    have x1 := tin_wr e t.st hT x y (z + 1)
    have hT1 : (upd H tn (.lst [.int x, .int y, .int (z + 1)])) tn = some (.lst [.int x, .int y, .int (z + 1)]) := upd_same
    show _
    have ry : ∀ {σ : L2.St}, σ[0]? = some (some (.ref tn)) → Rd1 (tOp (rIx K) (tVar 0) (tC (.int 1))) σ (upd H tn (.lst [.int x, .int y, .int (z + 1)])) (.int y) := fun h => rd_ix (rd_v h) rd_c hT1 rfl
    have rz : ∀ {σ : L2.St}, σ[0]? = some (some (.ref tn)) → Rd1 (tOp (rIx K) (tVar 0) (tC (.int 2))) σ (upd H tn (.lst [.int x, .int y, .int (z + 1)])) (.int (z + 1)) := fun h => rd_ix (rd_v h) rd_c hT1 rfl
    -- once
    refine (rd_Ii (rd_int1 (rd_Ii (rd_I0i (ry rfl) (rd_Ii rd_c (rz rfl) (show CMul 48271 (z + 1) from .inl ⟨by omega, by omega⟩))) (rd_I0i rd_c (rz rfl)) (show CMul _ (39373 + (z + 1)) from .inr ⟨by omega, by omega⟩))) rd_c (show (0 : Int) < 2147483647 by omega)) _ ?_
    generalize (y + 48271 * (z + 1)) * (39373 + (z + 1)) % 2147483647 = O
    -- broad
    refine (rd_I0i (rd_Ii (rd_int1 (rd_v (n := 3) (v := .int O) rfl)) rd_c (show (0 : Int) < 40009 by omega)) rd_c) _ ?_
    have hW : 7 ≤ O % 40009 + 7 ∧ O % 40009 + 7 < 40016 := by
      have h1 := Int.emod_nonneg O (b := 40009) (by omega)
      have h2 := Int.emod_lt_of_pos O (b := 40009) (by omega)
      omega
    generalize O % 40009 + 7 = W at hW
    -- twice
    refine (rd_Ii (rd_int1 (rd_Ii (rd_I0i (rd_I0i (rd_v (n := 3) (v := .int O) rfl) (rz rfl)) (rd_Ii (ry rfl) rd_c (show CDiv y 1000003 from ⟨by omega, by omega⟩))) (rd_v (n := 4) (v := .int W) rfl) (show CMul _ W from .inr ⟨by omega, by omega⟩))) rd_c (show (0 : Int) < 2147483629 by omega)) _ ?_
    generalize (O + (z + 1) + y / 1000003) * W % 2147483629 = U
    refine (rd_Ii (rd_int1 (rd_Ii (rd_Ii (rd_int1 (rd_I0i (rd_Ii (rd_v (n := 5) (v := .int U) rfl) rd_c (show CMul U 48271 from .inr ⟨by omega, by omega⟩)) (rd_v (n := 3) (v := .int O) rfl))) rd_c (show (0 : Int) < 2147483587 by omega)) rd_c (show CDiv _ 64 from ⟨by omega, by omega⟩))) (rd_v (n := 1) (v := .int (b : Int)) rfl) b0') _ ?_
    exact q _ S _ _ (blw_mod _ b0) x1 ⟨t.st, _, _, _, hT1, by omega, by omega⟩ (.int _)
/-! ### _law_of -/
def ROf (ds : List PyData) (Po : PyData → Prop) (k : Nat) : Prop := ∃ goods : List PyData, 0 < goods.length ∧ goods.length ≤ 1000 ∧ ds = [.list goods] ∧ Po = (fun x => x ∈ goods) ∧ k = 1
theorem sc__law_of : FnScope ["_law_tin", "_law_goods"] ["_law_tin", "_law_goods"] (defScope (top 29)) := ⟨rfl, rfl, rfl, by decide +kernel, rfl, by decide +kernel, by decide +kernel⟩
theorem ok__law_of (T : Tx mg) (F : Def K mg "_law_of" ["_law_tin", "_law_goods"] (top 29)) (c_law_take : Cal P w K mg base "_law_take" ["_law_tin", "_law_below"] 1 (spT RTake)) : Cal P w K mg base "_law_of" ["_law_tin", "_law_goods"] 2 (spT ROf) := by
  have sc := sc__law_of
  refine def_okT F sc (fun ds P0 k h => ?_) fun f cdv A outer s H E tn c ds P0 m hr hc h => ?_
  · obtain ⟨_, _, _, rfl, _⟩ := h
    rfl
  obtain ⟨goods, g0, g1, rfl, rfl, rfl⟩ := h
  refine ⟨_, (pss_one (ps_ret (pe_ix (ixK K) (pv 1) (pe_cal c_law_take (hr.mono (by decide)) rfl (pa_cons (pv 0) (pa_cons (pe_callB (lenK K) rfl T.len PySem.boot_len (pa_cons (pv 1) pa_nil)) pa_nil))) (fun _ _ => rfl)))), ?_⟩
  exact exn_ret (evn_ix (k := true) (ds := goods) (ev_v rfl) (evn_call (eva_cons (elen (ev_v rfl) rfl) eva_nil) ⟨goods.length, g0, by omega, rfl, rfl, rfl⟩ hc) fun d h => h)
/-! ### _law_ring -/
def RRing (ds : List PyData) (Po : PyData → Prop) (k : Nat) : Prop := ∃ wide : Nat, 1 ≤ wide ∧ wide ≤ 3 ∧ ds = [.int (wide : Int)] ∧ Po = (fun x => ∃ r, ROk r wide ∧ r.length ≤ 7 ∧ x = ringD false r) ∧ k = 8
theorem sc__law_ring : FnScope ["_law_tin", "_law_wide", "_law_lap"] ["_law_tin", "_law_wide"] (defScope (top 31)) := ⟨rfl, rfl, rfl, by decide +kernel, rfl, by decide +kernel, by decide +kernel⟩
/-- a list all of whose items are told -/
theorem list_of {α : Type} {f : α → PyData} {p : α → Prop} : ∀ {es : List PyData}, (∀ e ∈ es, ∃ a, e = f a ∧ p a) → ∃ as : List α, es = as.map f ∧ ∀ a ∈ as, p a
  | [], _ => ⟨[], rfl, fun a h => by cases h⟩
  | e :: es, h => by
    obtain ⟨a, ea, pa⟩ := h e List.mem_cons_self
    obtain ⟨as, eas, pas⟩ := list_of (es := es) fun y hy => h y (List.mem_cons_of_mem _ hy)
    refine ⟨a :: as, by rw [ea, eas]; rfl, fun y hy => ?_⟩
    rcases List.mem_cons.mp hy with rfl | hy
    · exact pa
    · exact pas y hy
theorem ok__law_ring (T : Tx mg) (F : Def K mg "_law_ring" ["_law_tin", "_law_wide"] (top 31)) (c_law_take : Cal P w K mg base "_law_take" ["_law_tin", "_law_below"] 1 (spT RTake)) : Cal P w K mg base "_law_ring" ["_law_tin", "_law_wide"] 2 (spT RRing) := by
  have sc := sc__law_ring
  refine def_okT F sc (fun ds P0 k h => ?_) fun f cdv A outer s H E tn c ds P0 m hr hc h => ?_
  · obtain ⟨_, _, _, rfl, _⟩ := h
    rfl
  obtain ⟨wide, g0, g1, rfl, rfl, rfl⟩ := h
  refine ⟨_, (pss_one (ps_ret (pe_callTy (tupK K) rfl T.tuple PyProof.Rows.boot_tuple (pa_cons (pe_lc (own := [("_law_lap", 2)]) rfl sc.nd (pi_range1 rfl T.range (pa_cons (pe_op op_add pe_int (pe_cal c_law_take (hr.mono (by decide)) rfl (pa_cons (pv 0) (pa_cons pe_int pa_nil)))) pa_nil)) (blkOk_by (by rfl)) (fun _ _ _ _ _ => (pg_name (i := 2) sc.nd rfl (Or.inl rfl))) (fun _ _ _ _ _ => pts_nil) (fun _ _ _ _ _ => (pe_op op_add pe_int (pe_cal c_law_take (hr.mono (by decide)) rfl (pa_cons (pv 0) (pa_cons (pv 1) pa_nil)))))) pa_nil)))), ?_⟩
  refine exn_to (exn_ret (evn_tupleOf (evn_lcR (P := fun x => ∃ l : Nat, x = .int (l : Int) ∧ 1 ≤ l ∧ l ≤ wide) (c1 := c + 1) 1 7 (evn_to (evn_I0 (evn_to (evn_pure ev_int) fun x e => ⟨1, e, (rfl : (1 : Int) = 1)⟩) (evn_call (eva_cons ev_int eva_nil) ⟨7, by omega, by omega, rfl, rfl, rfl⟩ (by omega))) fun x h => ?_) (by omega) fun i hi => ?_))) (fun o h => ?_) (by omega)
  · obtain ⟨k, rfl, i, j, rfl, ⟨j', rfl, hj⟩, rfl⟩ := h
    exact ⟨_, rfl, j' + 1, by omega, by omega, by omega⟩
  · refine ⟨_, _, evg_name, fun j h => h, rfl, evn_to (evn_I0 (evn_to (evn_pure ev_int) fun x e => ⟨1, e, (rfl : (1 : Int) = 1)⟩) (evn_call (eva_cons (ev_v rfl) eva_nil) ⟨wide, by omega, by omega, rfl, rfl, rfl⟩ (by omega))) (fun x h => ?_) (by omega)⟩
    obtain ⟨k, rfl, i, j, rfl, ⟨j', rfl, hj⟩, rfl⟩ := h
    exact ⟨j' + 1, congrArg PyData.int (by omega), by omega, by omega⟩
  · obtain ⟨x, rfl, xs, rfl, h1, h2, h3⟩ := h
    obtain ⟨r, rfl, hr'⟩ := list_of h3
    rw [List.length_map] at h1 h2
    exact ⟨_, rfl, r, ⟨h1, hr', by omega⟩, h2, rfl⟩
end
end L3
/-! W8: the walk of the drawn walker. -/
namespace L3
open PySem PySem.Spec PyProof.Rows L2
local macro_rules | `(tactic| walk_at "E") => `(tactic| first
  | (with_reducible exact ev_int)
  | (with_reducible exact ev_bl)
  | (with_reducible exact ev_non)
  | ((with_reducible apply ev_v); exact rfl)
  | ((with_reducible apply eix) <;> walk_at "E")
  | ((with_reducible apply elen) <;> walk_at "E")
  | ((with_reducible apply etup) <;> walk_at "E")
  | ((with_reducible apply etupl) <;> walk_at "E")
  | ((with_reducible apply elst) <;> walk_at "E")
  | (with_reducible exact eva_nil)
  | ((with_reducible apply eva_cons) <;> walk_at "E")
  | ((with_reducible apply ev_I0i) <;> walk_at "E")
  | ((with_reducible apply ev_I0b) <;> walk_at "E")
  | ((with_reducible apply ev_Ii) <;> walk_at "E")
  | ((with_reducible apply ev_neg) <;> walk_at "E")
  | ((with_reducible apply ev_isi2) <;> walk_at "E")
  | ((with_reducible apply ev_isi) <;> walk_at "E")
  | ((with_reducible apply ev_int1) <;> walk_at "E")
  | ((with_reducible apply evt_test) <;> walk_at "E")
  | ((with_reducible apply evt_b) <;> walk_at "E")
  | ((with_reducible apply evt_not) <;> walk_at "E")
  | ((with_reducible apply ev_isN) <;> walk_at "E")
  | ((with_reducible apply ev_notN) <;> walk_at "E")
  | ((with_reducible apply ev_call) <;> walk_at "E")
  | ((with_reducible apply ev_eqD) <;> walk_at "E")
  | ((with_reducible apply ev_neD) <;> walk_at "E")
  | ((with_reducible apply elstM) <;> walk_at "E")
  | ((with_reducible apply ex_seq) <;> walk_at "E")
  | ((with_reducible apply ex_retE) <;> walk_at "E")
  | ((with_reducible apply ex_asg) <;> walk_at "E")
  | ((with_reducible apply ex_setD) <;> walk_at "E")
  | (with_reducible exact ex_next)
  | (with_reducible exact evg_name)
  | (with_reducible exact evgs_nil)
  | ((with_reducible apply evgs_cons) <;> walk_at "E")
  | ((with_reducible apply gseq) <;> walk_at "E")
  | ((with_reducible apply ev_slice) <;> walk_at "E")
  | (with_reducible exact evo_none)
  | ((with_reducible apply evo_some) <;> walk_at "E")
  | (show (_ : Prop); assumption)
  | exact rfl
  | skip)
local macro_rules | `(tactic| walk_at "V") => `(tactic| ((apply ev_to) <;> walk_at "E"))
section
variable {P : Program} {w : World} {K : PySem.W.Frag} {mg : Str → Option Value} {base : Heap}
/-! ### _law_walker -/
def SayOk (w : Wk) : Prop := ∀ o ∈ w.says, ∀ i, o = some i → 0 ≤ i
def RWalker (ds : List PyData) (Po : PyData → Prop) (k : Nat) : Prop := ds = [] ∧ Po = (fun x => ∃ w wide, WOk w wide ∧ w.steps.length ≤ 6 ∧ SayOk w ∧ x = walkD false w) ∧ k = 45
theorem sc__law_walker : FnScope ["_law_tin", "_law_wide", "_law_many", "_law_onward", "_law_steps", "_law_state", "_law_row", "_law_lap", "_law_own"] ["_law_tin"] (defScope (top 30)) := ⟨rfl, rfl, rfl, by decide +kernel, rfl, by decide +kernel, by decide +kernel⟩
/-- a row of a walker of so many STATES and letters -/
def RowOk (wide many : Nat) (row : List (Nat × Int)) : Prop := row.length = wide ∧ ∀ m ∈ row, m.1 < many ∧ -1 ≤ m.2 ∧ m.2 ≤ 1
def goodsD : List PyData := [.none, .int 0, .int 1, .int 2, .none, .int 1]
theorem goods_say : ∀ e ∈ goodsD, ∃ o, e = sayD o ∧ ∀ i, o = some i → 0 ≤ i := fun e h => by
  have z : ∀ k : Int, 0 ≤ k → ∀ i, some k = some i → 0 ≤ i := fun k hk i e => by cases e; exact hk
  rcases List.mem_cons.mp h with rfl | h
  · exact ⟨none, rfl, fun i e => by cases e⟩
  rcases List.mem_cons.mp h with rfl | h
  · exact ⟨some 0, rfl, z 0 (by omega)⟩
  rcases List.mem_cons.mp h with rfl | h
  · exact ⟨some 1, rfl, z 1 (by omega)⟩
  rcases List.mem_cons.mp h with rfl | h
  · exact ⟨some 2, rfl, z 2 (by omega)⟩
  rcases List.mem_cons.mp h with rfl | h
  · exact ⟨none, rfl, fun i e => by cases e⟩
  rcases List.mem_cons.mp h with rfl | h
  · exact ⟨some 1, rfl, z 1 (by omega)⟩
  · cases h
theorem ok__law_walker (T : Tx mg) (F : Def K mg "_law_walker" ["_law_tin"] (top 30)) (c_law_take : Cal P w K mg base "_law_take" ["_law_tin", "_law_below"] 1 (spT RTake)) (c_law_of : Cal P w K mg base "_law_of" ["_law_tin", "_law_goods"] 2 (spT ROf)) : Cal P w K mg base "_law_walker" ["_law_tin"] 3 (spT RWalker) := by
  have sc := sc__law_walker
  refine def_okT F sc (fun ds P0 k h => ?_) fun f cdv A outer s H E tn c ds P0 m hr hc h => ?_
  · obtain ⟨rfl, _⟩ := h
    rfl
  obtain ⟨rfl, rfl, rfl⟩ := h
  refine ⟨_, (pss_cons (ps_asg (pe_tup (pa_cons (pe_op op_add pe_int (pe_cal c_law_take (hr.mono (by decide)) rfl (pa_cons (pv 0) (pa_cons pe_int pa_nil)))) (pa_cons (pe_op op_add pe_int (pe_cal c_law_take (hr.mono (by decide)) rfl (pa_cons (pv 0) (pa_cons pe_int pa_nil)))) (pa_cons (pe_cmpR (eqK K hr.units) (pe_cal c_law_take (hr.mono (by decide)) rfl (pa_cons (pv 0) (pa_cons pe_int pa_nil))) pe_int (nomark _)) pa_nil)))) (pg_seqK K 3 rfl (pgs_cons (pg_name (i := 1) sc.nd rfl (Or.inl rfl)) (pgs_cons (pg_name (i := 2) sc.nd rfl (Or.inr rfl)) (pgs_cons (pg_name (i := 3) sc.nd rfl (Or.inl rfl)) pgs_nil)))))
    (pss_cons (ps_set (i := 4) sc.nd rfl (Or.inl rfl) (pe_lst pa_nil))
    (pss_cons (ps_for PassesOwn.never rfl (pi_range1 rfl T.range (pa_cons (pv 2) pa_nil)) (pg_name (i := 5) sc.nd rfl (Or.inl rfl))
      (pss_cons (ps_setLc (i := 6) (own := [("_law_lap", 7)]) rfl sc.nd rfl rfl (sw_true rfl rfl rfl (by rfl)) (pi_range1 rfl T.range (pa_cons (pv 1) pa_nil)) (blkOk_by (by rfl)) (fun _ _ _ _ _ => (pg_name (i := 7) sc.nd rfl (Or.inl rfl))) (fun _ _ _ _ _ => pts_nil) (fun _ _ _ _ _ => (pe_tup (pa_cons (pe_cal c_law_take (hr.mono (by decide)) rfl (pa_cons (pv 0) (pa_cons (pv 2) pa_nil))) (pa_cons (pe_op op_sub (pe_cal c_law_take (hr.mono (by decide)) rfl (pa_cons (pv 0) (pa_cons pe_int pa_nil))) pe_int) pa_nil)))))
      (pss_one (ps_expr (pe_bm PySem.F.plainAttrs_list PySem.F.slot_list_append PySem.F.type_list_append mt_append (pv 4) (pa_cons (pe_ifExp (pt_val (pv 3)) (pe_callTy (tupK K) rfl T.tuple PyProof.Rows.boot_tuple (pa_cons (pe_lc (own := [("_law_own", 8)]) rfl sc.nd (pi_seqK K (pv 6)) (blkOk_by (by rfl)) (fun _ _ _ _ _ => (pg_name (i := 8) sc.nd rfl (Or.inl rfl))) (fun _ _ _ _ _ => pts_nil) (fun _ _ _ _ _ => (pe_tup (pa_cons (pe_ix (ixK K) (pv 8) pe_int (fun _ _ => rfl)) (pa_cons pe_int pa_nil))))) pa_nil)) (pe_callTy (tupK K) rfl T.tuple PyProof.Rows.boot_tuple (pa_cons (pv 6) pa_nil))) pa_nil))))))
    (pss_one (ps_ret (pe_tup (pa_cons (pe_callTy (tupK K) rfl T.tuple PyProof.Rows.boot_tuple (pa_cons (pv 4) pa_nil)) (pa_cons (pe_callTy (tupK K) rfl T.tuple PyProof.Rows.boot_tuple (pa_cons (pe_lc (own := [("_law_state", 5)]) rfl sc.nd (pi_range1 rfl T.range (pa_cons (pv 2) pa_nil)) (blkOk_by (by rfl)) (fun _ _ _ _ _ => (pg_name (i := 5) sc.nd rfl (Or.inl rfl))) (fun _ _ _ _ _ => pts_nil) (fun _ _ _ _ _ => (pe_cal c_law_of (hr.mono (by decide)) rfl (pa_cons (pv 0) (pa_cons (pe_lst (pa_cons pe_non (pa_cons pe_int (pa_cons pe_int (pa_cons pe_int (pa_cons pe_non (pa_cons pe_int pa_nil))))))) pa_nil))))) pa_nil)) pa_nil)))))))), ?_⟩
  have draw : ∀ {δ : List Sl} {c b : Nat} {te : TE}, EvD te δ (.int (b : Int)) → 0 < b → b < 1073741824 → c + 1 ≤ 2000 → EvN tn (tCall (spT RTake) [] E0 (tCons (tVar 0) (tCons te tNil))) δ c (Blw b) (c + 1) := fun h h0 h1 h2 =>
    evn_call (eva_cons h eva_nil) ⟨_, h0, h1, rfl, rfl, rfl⟩ h2
  -- wide, many, onward
  refine exn_seq (c1 := c + 3) (P1 := fun δ' => ∃ (wide many : Nat) (onw : Bool), 1 ≤ wide ∧ wide ≤ 3 ∧ 1 ≤ many ∧ many ≤ 6 ∧ δ' = [.t tn, .d (.int (wide : Int)), .d (.int (many : Int)), .d (.bool onw), .u, .u, .u, .u, .u]) (exn_asg (evn_tup (evna_cons (evn_I0 (evn_to (evn_pure ev_int) fun x e => ⟨1, e, (rfl : (1 : Int) = 1)⟩) (draw (b := 3) ev_int (by omega) (by omega) (by omega))) (evna_cons (evn_I0 (evn_to (evn_pure ev_int) fun x e => ⟨1, e, (rfl : (1 : Int) = 1)⟩) (draw (b := 6) ev_int (by omega) (by omega) (by omega))) (evna_cons (evn_eq (draw (b := 3) ev_int (by omega) (by omega) (by omega)) (evn_to (evn_pure ev_int) fun x e => ⟨0, e, (rfl : (0 : Int) = 0)⟩)) evna_nil))) fun xs h => ?_) fun x h => ?_) fun δ' _ h => ?_
  · obtain ⟨_, _, rfl, _, _, _, rfl, _, _, _, rfl, _, rfl⟩ := h
    show 3 ≤ 1000
    omega
  · obtain ⟨_, rfl, _, _, rfl, ⟨_, rfl, _, _, rfl, ⟨j1, rfl, h1⟩, rfl⟩, _, _, rfl, ⟨_, rfl, _, _, rfl, ⟨j2, rfl, h2⟩, rfl⟩, _, _, rfl, ⟨b, rfl⟩, rfl⟩ := h
    refine ⟨_, _, gseq rfl (evgs_cons evg_name (evgs_cons evg_name (evgs_cons evg_name evgs_nil))) rfl, rfl, j1 + 1, j2 + 1, b, by omega, by omega, by omega, by omega, ?_⟩
    rw [show ((j1 + 1 : Nat) : Int) = 1 + (j1 : Int) by omega, show ((j2 + 1 : Nat) : Int) = 1 + (j2 : Int) by omega]
    rfl
  obtain ⟨wide, many, onw, w1, w3, m1, m6, rfl⟩ := h
  refine exn_seqP (ex_set (s := .m []) (elstM eva_nil rfl)) rfl ?_
  have hl : ((List.range (many : Int).toNat).map fun (i : Nat) => PyData.int (i : Int)).length = many := by rw [List.length_map, List.length_range, Int.toNat_natCast]
  have hw : ((List.range (wide : Int).toNat).map fun (i : Nat) => PyData.int (i : Int)).length = wide := by rw [List.length_map, List.length_range, Int.toNat_natCast]
  -- the rows
  refine exn_seq (c1 := c + 3 + 36) (P1 := fun δ' => ∃ (rows : List (List (Nat × Int))) (a b : Sl), rows.length = many ∧ (∀ row ∈ rows, RowOk wide many row) ∧ δ' = [.t tn, .d (.int (wide : Int)), .d (.int (many : Int)), .d (.bool onw), .m (rows.map (rowD false)), a, b, .u, .u])
    (exn_to (exn_for 6 (fun i δ' => ∃ (rows : List (List (Nat × Int))) (a b : Sl), rows.length = i ∧ (∀ row ∈ rows, RowOk wide many row) ∧ δ' = [.t tn, .d (.int (wide : Int)), .d (.int (many : Int)), .d (.bool onw), .m (rows.map (rowD false)), a, b, .u, .u]) (evi_range (eva_cons (ev_v rfl) eva_nil) (by omega) (by omega)) ⟨[], .u, .u, rfl, (fun r h => by cases h), rfl⟩ (fun i δ' ⟨_, _, _, _, _, e⟩ => by subst e; rfl) fun i d δi h hd => ?_) (fun o h => ?_) (by rw [hl]; omega)) fun δ' _ h => ?_
  · obtain ⟨rows, a, b, hi, hrows, rfl⟩ := h
    have hilt : i < many := by
      have h1 := (List.getElem?_eq_some_iff.mp hd).1
      rw [hl] at h1
      exact h1
    have hd' : d = .int (i : Int) := by
      rw [List.getElem?_map, List.getElem?_range (by rw [Int.toNat_natCast]; exact hilt)] at hd
      cases hd
      rfl
    subst hd'
    refine ⟨_, _, evg_name, rfl, ?_⟩
    have hc2 : c + 3 + i * 6 ≤ c + 39 := by omega
    -- row = [..]
    refine exn_seq (c1 := c + 3 + i * 6 + 6) (P1 := fun δ' => ∃ row : List (Nat × Int), RowOk wide many row ∧ δ' = [.t tn, .d (.int (wide : Int)), .d (.int (many : Int)), .d (.bool onw), .m (rows.map (rowD false)), .d (.int (i : Int)), .d (.list (row.map (moveD false))), .u, .u])
      (exn_to (exn_asg (evn_lc (P := fun x => ∃ m : Nat × Int, x = moveD false m ∧ m.1 < many ∧ -1 ≤ m.2 ∧ m.2 ≤ 1) 2 (evi_range (eva_cons (ev_v rfl) eva_nil) (by omega) (by omega)) (by rw [hw]; exact sz_small (by omega)) fun j d hd => ?_) fun x h => ?_) (fun o h => h) (by rw [hw]; omega)) fun δ' _ h => ?_
    · have hjlt : j < wide := by
        have h1 := (List.getElem?_eq_some_iff.mp hd).1
        rw [hw] at h1
        exact h1
      refine ⟨_, _, evg_name, fun j h => h, rfl, evn_to (evn_tup (evna_cons (draw (b := many) (ev_v rfl) (by omega) (by omega) (by omega)) (evna_cons (evn_I0 (draw (b := 3) ev_int (by omega) (by omega) (by omega)) (evn_to (evn_pure ev_int) fun x e => ⟨1, e, (rfl : (1 : Int) = 1)⟩)) evna_nil)) fun xs h => ?_) (fun x h => ?_) (by omega)⟩
      · obtain ⟨_, _, rfl, _, _, _, rfl, _, rfl⟩ := h
        show 2 ≤ 1000
        omega
      · obtain ⟨_, rfl, _, _, rfl, ⟨_, rfl, j1, rfl, h1⟩, _, _, rfl, ⟨_, rfl, _, _, ⟨j2, rfl, h2⟩, rfl, rfl⟩, rfl⟩ := h
        exact ⟨(j1, (j2 : Int) - 1), rfl, h1, by show -1 ≤ (j2 : Int) - 1; omega, by show (j2 : Int) - 1 ≤ 1; omega⟩
    · obtain ⟨es, rfl, hes, hP⟩ := h
      obtain ⟨row, rfl, hrow⟩ := list_of hP
      rw [List.length_map, hw] at hes
      exact ⟨_, _, evg_name, rfl, row, ⟨hes, hrow⟩, rfl⟩
    -- steps.append(..)
    obtain ⟨row, hrow, rfl⟩ := h
    refine exn_to (exn_pure (ex_app (i := 4) (x := rowD false (if onw = true then row.map (fun m => (m.1, (1 : Int))) else row)) rfl (ev_if (evt_b (ev_v rfl)) (fun e => ?_) fun e => ?_) (by rw [List.length_map, sizeLine_eq]; omega))) (fun o h => ?_) (by omega)
    · rw [if_pos e]
      refine etup (y := .list ((row.map (fun m => (m.1, (1 : Int)))).map (moveD false))) (ev_lc _ (iseq (ev_v rfl) rfl) (by rw [List.length_map, List.length_map, List.length_map]) (by rw [List.length_map, hrow.1]; exact sz_small (by omega)) fun j d e hd he => ?_) rfl
      obtain ⟨m, hm, rfl⟩ := map_at hd
      obtain ⟨m', hm', rfl⟩ := map_at he
      obtain ⟨m2, hm2, rfl⟩ := map_at hm'
      rw [hm] at hm2
      cases hm2
      exact ⟨_, _, evg_name, fun j h => h, etupl (eva_cons (eix (ev_v rfl) ev_int rfl) (eva_cons ev_int eva_nil)) rfl⟩
    · rw [e, if_neg Bool.false_ne_true]
      exact etup (ev_v rfl) rfl
    · subst h
      refine ⟨_, rfl, rows ++ [if onw = true then row.map (fun m => (m.1, (1 : Int))) else row], .d (.int (i : Int)), .d (.list (row.map (moveD false))), by rw [List.length_append, hi, List.length_singleton], fun r hr => ?_, by rw [List.map_append]; rfl⟩
      rcases List.mem_append.mp hr with z | z
      · exact hrows r z
      · have er : r = if onw = true then row.map (fun m => (m.1, (1 : Int))) else row := by simpa using z
        rw [er]
        split
        · refine ⟨by rw [List.length_map]; exact hrow.1, fun m hm => ?_⟩
          obtain ⟨m', hm', rfl⟩ := List.mem_map.mp hm
          exact ⟨(hrow.2 m' hm').1, by show (-1 : Int) ≤ 1; omega, by show (1 : Int) ≤ 1; omega⟩
        · exact hrow
  · obtain ⟨δ', rfl, g0, h⟩ := h
    rw [hl] at h
    exact ⟨δ', rfl, g0, h⟩
  obtain ⟨rows, a, b, hrl, hrows, rfl⟩ := h
  -- return
  refine exn_to (exn_ret (evn_tup (evna_cons (evn_pure (ev_tupleM (i := 4) rfl)) (evna_cons (evn_tupleOf (evn_lc (P := fun x => x ∈ goodsD) 1 (evi_range (eva_cons (ev_v rfl) eva_nil) (by omega) (by omega)) (by rw [hl]; exact sz_small (by omega)) fun j d hd => ?_)) evna_nil)) fun xs h => ?_)) (fun o h => ?_) (by rw [hl]; omega)
  · have hjlt : j < many := by
      have h1 := (List.getElem?_eq_some_iff.mp hd).1
      rw [hl] at h1
      exact h1
    refine ⟨_, _, evg_name, fun j h => h, rfl, evn_to (evn_call (eva_cons (elst (eva_cons ev_non (eva_cons ev_int (eva_cons ev_int (eva_cons ev_int (eva_cons ev_non (eva_cons ev_int eva_nil)))))) rfl) eva_nil) ⟨goodsD, by decide, by decide, rfl, rfl, rfl⟩ (by omega)) (fun x h => h) (by omega)⟩
  · obtain ⟨_, _, rfl, _, _, _, rfl, _, rfl⟩ := h
    show 2 ≤ 1000
    omega
  · obtain ⟨_, rfl, _, rfl, _, _, rfl, rfl, _, _, rfl, ⟨es, rfl, hes, hP⟩, rfl⟩ := h
    obtain ⟨says, rfl, hsays⟩ := list_of fun e he => goods_say e (hP e he)
    rw [List.length_map, hl] at hes
    refine ⟨_, rfl, ⟨rows, says⟩, wide, ⟨by show 0 < rows.length; omega, by show says.length = rows.length; omega, fun r hr => (hrows r hr).1, fun r hr m hm => ?_, fun r hr m hm => (hrows r hr).2 m hm |>.2, by show rows.length ≤ 1000; omega, w1, w3⟩, by show rows.length ≤ 6; omega, hsays, rfl⟩
    show m.1 < rows.length
    rw [hrl]
    exact ((hrows r hr).2 m hm).1
end
end L3
/-! W9: the walk of _law_box, _law_by_hand_right. -/
namespace L3
open PySem PySem.Spec PyProof.Rows L2
local macro_rules | `(tactic| walk_at "E") => `(tactic| first
  | (with_reducible exact ev_int)
  | (with_reducible exact ev_bl)
  | (with_reducible exact ev_non)
  | ((with_reducible apply ev_v); exact rfl)
  | ((with_reducible apply eix) <;> walk_at "E")
  | ((with_reducible apply elen) <;> walk_at "E")
  | ((with_reducible apply etup) <;> walk_at "E")
  | ((with_reducible apply etupl) <;> walk_at "E")
  | ((with_reducible apply elst) <;> walk_at "E")
  | (with_reducible exact eva_nil)
  | ((with_reducible apply eva_cons) <;> walk_at "E")
  | ((with_reducible apply ev_I0i) <;> walk_at "E")
  | ((with_reducible apply ev_I0b) <;> walk_at "E")
  | ((with_reducible apply ev_Ii) <;> walk_at "E")
  | ((with_reducible apply ev_neg) <;> walk_at "E")
  | ((with_reducible apply ev_isi2) <;> walk_at "E")
  | ((with_reducible apply ev_isi) <;> walk_at "E")
  | ((with_reducible apply ev_int1) <;> walk_at "E")
  | ((with_reducible apply evt_test) <;> walk_at "E")
  | ((with_reducible apply evt_b) <;> walk_at "E")
  | ((with_reducible apply evt_not) <;> walk_at "E")
  | ((with_reducible apply ev_isN) <;> walk_at "E")
  | ((with_reducible apply ev_notN) <;> walk_at "E")
  | ((with_reducible apply ev_call) <;> walk_at "E")
  | ((with_reducible apply ev_eqD) <;> walk_at "E")
  | ((with_reducible apply ev_neD) <;> walk_at "E")
  | ((with_reducible apply elstM) <;> walk_at "E")
  | ((with_reducible apply ex_seq) <;> walk_at "E")
  | ((with_reducible apply ex_retE) <;> walk_at "E")
  | ((with_reducible apply ex_asg) <;> walk_at "E")
  | ((with_reducible apply ex_setD) <;> walk_at "E")
  | (with_reducible exact ex_next)
  | (with_reducible exact evg_name)
  | (with_reducible exact evgs_nil)
  | ((with_reducible apply evgs_cons) <;> walk_at "E")
  | ((with_reducible apply gseq) <;> walk_at "E")
  | ((with_reducible apply ev_slice) <;> walk_at "E")
  | (with_reducible exact evo_none)
  | ((with_reducible apply evo_some) <;> walk_at "E")
  | (show (_ : Prop); assumption)
  | exact rfl
  | skip)
local macro_rules | `(tactic| walk_at "V") => `(tactic| ((apply ev_to) <;> walk_at "E"))
section
variable {P : Program} {w : World} {K : PySem.W.Frag} {mg : Str → Option Value} {base : Heap}
/-! ### _law_box -/
def absI (c : Int) : Int := if c < 0 then -c else c
def box1 (c : Int) : Int := absI c * (if decide ((10 : Int) ^ (18 : Int).toNat ≤ absI c) = true then 1 else 0)
def box2 (c : Int) (k : Nat) : Int := c % 2305843009213693951 + 39373 * (k : Int) + 3195014
def boxD (c : Int) (k : Nat) : PyData := .list [.int (box1 c), .int (box2 c k), .int 0]
def spB : Sp := fun vs H Q _ => ∃ S cs k, Same S H ∧ DtAll S vs [.list ((cs : List Int).map .int), .int ((k : Nat) : Int)] ∧ k < cs.length ∧
  ∀ p S' H', Xt S H S' H' → S' p = none → H p = none → H' p = some (.lst [.int (box1 (cs.getD k 0)), .int (box2 (cs.getD k 0) k), .int 0]) → Q (.ref p) H'
theorem sc__law_box : FnScope ["_law_script", "_law_k", "_law_cell"] ["_law_script", "_law_k"] (defScope (top 24)) := ⟨rfl, rfl, rfl, by decide +kernel, rfl, by decide +kernel, by decide +kernel⟩
theorem ok__law_box (T : Tx mg) (F : Def K mg "_law_box" ["_law_script", "_law_k"] (top 24)) : Cal P w K mg base "_law_box" ["_law_script", "_law_k"] 1 spB := by
  have sc := sc__law_box
  obtain ⟨f, fd, F0, hm, hbd⟩ := F.ex
  refine ⟨f, fd, F0.ok sc (fun vs H Q E h => ?_) (fun cdv A outer s H vs Q E hr h => ?_), hm, F0.kp, hbd⟩
  · obtain ⟨S, cs, k, e, cc, _⟩ := h
    rw [cc.length]
    rfl
  obtain ⟨S, cs, k, e, cc, hk, q⟩ := h
  refine ⟨_, (pss_cons (ps_set (i := 2) sc.nd rfl (Or.inl rfl) (pe_ifExp (pt_cmpR op_lt (pv 1) (pe_callB (lenK K) rfl T.len PySem.boot_len (pa_cons (pv 0) pa_nil)) (nomark _)) (pe_ix (ixK K) (pv 0) (pv 1) (fun _ _ => rfl)) pe_int))
    (pss_one (ps_ret (pe_lst (pa_cons (pe_op op_mul (pe_callB call_absX rfl T.abs (by decide +kernel) (pa_cons (pv 2) pa_nil)) (pe_callTy call_intX rfl T.int PyProof.Rows.boot_int (pa_cons (pe_cmpR op_ge (pe_callB call_absX rfl T.abs (by decide +kernel) (pa_cons (pv 2) pa_nil)) (pe_op op_pow pe_int pe_int) (nomark _)) pa_nil))) (pa_cons (pe_op op_add (pe_op op_add (pe_op op_mod (pe_callTy call_intX rfl T.int PyProof.Rows.boot_int (pa_cons (pv 2) pa_nil)) pe_int) (pe_op op_mul pe_int (pv 1))) pe_int) (pa_cons pe_int pa_nil))))))), ?_⟩
  generalize hc : cs.getD k 0 = c at q
  have ha : ∀ {δ : List Sl}, δ[2]? = some (.d (.int c)) → EvD (tCB rAbs1 (tCons (tVar 2) tNil)) δ (.int (absI c)) := fun h => eabs (ev_v h)
  refine (ex_setD (x := .int c) (ev_if (evt_test (ev_I0b (ev_v rfl) (elen (ev_v rfl) (rfl : itemsD (.list (cs.map .int)) = some (cs.map .int))))) (fun _ => eix (ev_v rfl) (ev_v rfl) (getD_nat (k := true) ?_)) fun e => ?_)) H S H _ _ (Fr.start (N := ["_law_script", "_law_k", "_law_cell"]) e cc) fun S1 H1 σ1 x1 f1 => ?_
  · rw [List.getElem?_map, List.getElem?_eq_getElem hk, ← hc, List.getD_eq_getElem?_getD, List.getElem?_eq_getElem hk]
    rfl
  · exact absurd (of_decide_eq_false e) (by rw [List.length_map]; omega)
  refine (elstM (xs := [.int (box1 c), .int (box2 c k), .int 0]) (eva_cons (ev_Ii (ha rfl) (ev_intB (ev_I0b (g := fun i j => decide (j ≤ i)) (ha rfl) (ev_Ii ev_int ev_int (show CPow 10 18 from ⟨by omega, by omega, by decide⟩)))) (.inr ?_)) (eva_cons (ev_I0i (ev_I0i (ev_Ii (ev_int1 (ev_v rfl)) ev_int (by decide)) (ev_Ii ev_int (ev_v rfl) (.inl ⟨by omega, by omega⟩))) ev_int) (eva_cons ev_int eva_nil))) rfl) H S1 H1 σ1 _ f1 fun v S2 H2 x2 d2 m2 => ?_
  · obtain ⟨p, ws, rfl, hS, hH, dd⟩ := d2
    have ew : ws = [.int (box1 c), .int (box2 c k), .int 0] := DtAll.of_ints (ns := [box1 c, box2 c k, 0]) dd
    subst ew
    exact q p S2 H2 (Xt.trans x1 x2) hS (x1.dom _ ((m2 rfl).2 p rfl)) hH
  · split <;> omega
/-! ### _law_by_hand_right -/
def plB : Nat → PyData → Bool
  | _, .none => true
  | _, .bool _ => true
  | _, .int _ => true
  | n + 1, .list xs => Nat.ble xs.length 4000000 && xs.all (plB n)
  | n + 1, .tuple xs => Nat.ble xs.length 4000000 && xs.all (plB n)
  | _, _ => false
theorem plB_ok : ∀ {n : Nat} {d : PyData}, plB n d = true → Pl n d
  | n, .none, _ => pl_non n
  | n, .bool b, _ => pl_bl n b
  | n, .int i, _ => pl_int n i
  | n + 1, .list xs, h => by
    have h : (Nat.ble xs.length 4000000 && xs.all (plB n)) = true := h
    rw [Bool.and_eq_true] at h
    exact ⟨Nat.le_of_ble_eq_true h.1, fun x hx => plB_ok (List.all_eq_true.mp h.2 x hx)⟩
  | n + 1, .tuple xs, h => by
    have h : (Nat.ble xs.length 4000000 && xs.all (plB n)) = true := h
    rw [Bool.and_eq_true] at h
    exact ⟨Nat.le_of_ble_eq_true h.1, fun x hx => plB_ok (List.all_eq_true.mp h.2 x hx)⟩
  | 0, .list xs, h => by cases h
  | 0, .tuple xs, h => by cases h
  | 0, .str x, h => by cases h
  | n + 1, .str x, h => by cases h
  | 0, .dict x, h => by cases h
  | n + 1, .dict x, h => by cases h
def turner : Wk := ⟨[[(0, -1), (1, 1)], [(1, 1), (0, -1)]], [none, some 3]⟩
def header : Wk := ⟨[[(1, 1)], [(2, 1)], [(1, 1)]], [none, some 0, some 1]⟩
theorem turner_ok : WOk turner 2 := ⟨by decide, by decide, by decide, by decide, by decide, by decide, by decide, by decide⟩
theorem header_ok : WOk header 1 := ⟨by decide, by decide, by decide, by decide, by decide, by decide, by decide, by decide⟩
theorem r121_ok : ROk [1, 2, 1] 2 := ⟨by decide, by decide, by decide⟩
theorem r1_ok : ROk [1] 1 := ⟨by decide, by decide, by decide⟩
theorem header_cyc : Cyc header [1] 0 3 1 := by
  refine ⟨by decide, by decide +kernel, fun i j hi hj e => ?_⟩
  have h : ∀ i, i < 3 → ∀ j, j < 3 → pos header [1] 0 i = pos header [1] 0 j → i = j := by decide +kernel
  exact h i hi j hj e
def bigN : Nat := 1000000000000000000000000000000
def handNs : List Nat := [0, 1, 2, 3, bigN, bigN - 1]
def handGot : List PyData := [.tuple (rowsD turner [1, 2, 1] 0 6), .tuple ((wordsF (fun i => saidAt turner [1, 2, 1] 0 (i + 1)) 6).map sayD), .list (handNs.map fun n => sayD (saidAt header [1] 0 (near 3 1 n)))]
def handRows : PyData := .tuple [.tuple [.int 2, .int 0, .none], .tuple [.int 1, .int 0, .none], .tuple [.int 2, .int 1, .int 3], .tuple [.int 0, .int 1, .int 3], .tuple [.int 1, .int 1, .int 3], .tuple [.int 0, .int 0, .int 3]]
def handGoal : List PyData := [handRows, .tuple [.int 3], .list [.none, .int 0, .int 1, .int 0, .int 1, .int 0]]
theorem hand_eq : handGot = handGoal := by
  unfold handGot handGoal handRows handNs bigN
  congr 1
theorem pl_hand : Pl 4 (.list handGoal) := plB_ok rfl
def RByHand (ds : List PyData) (r : PyData) : Prop := ds = [] ∧ r = .bool true
theorem sc__law_by_hand_right : FnScope ["_law_turner", "_law_header", "_law_got", "_law_goal", "_law_own"] [] (defScope (top 34)) := ⟨rfl, rfl, rfl, by decide +kernel, rfl, by decide +kernel, by decide +kernel⟩
theorem ok__law_by_hand_right (T : Tx mg) (F : Def K mg "_law_by_hand_right" [] (top 34)) (cplayed : Cal P w K mg base "played" ["walker", "ring", "room", "steps"] 3 (spD RPlayed)) (cwords : Cal P w K mg base "words" ["walker", "ring", "room", "steps"] 4 (spD RWords)) (csaid_after : Cal P w K mg base "said_after" ["walker", "ring", "room", "steps"] 4 (spD RSaidAfter))
    (c_law_same : Cal P w K mg base "_law_same" ["_law_got", "_law_goal"] 5 (spD (RSame 5))) : Cal P w K mg base "_law_by_hand_right" [] 6 (spD RByHand) := by
  have sc := sc__law_by_hand_right
  refine def_ok F sc (fun ds r h => ?_) fun f cdv A outer s H E ds r hr h => ?_
  · obtain ⟨rfl, _⟩ := h
    rfl
  obtain ⟨rfl, rfl⟩ := h
  refine ⟨_, (pss_cons (ps_asg (pe_tup (pa_cons (pe_tup (pa_cons (pe_tup (pa_cons (pe_tup (pa_cons (pe_tup (pa_cons pe_int (pa_cons (pe_un un_neg pe_int) pa_nil))) (pa_cons (pe_tup (pa_cons pe_int (pa_cons pe_int pa_nil))) pa_nil))) (pa_cons (pe_tup (pa_cons (pe_tup (pa_cons pe_int (pa_cons pe_int pa_nil))) (pa_cons (pe_tup (pa_cons pe_int (pa_cons (pe_un un_neg pe_int) pa_nil))) pa_nil))) pa_nil))) (pa_cons (pe_tup (pa_cons pe_non (pa_cons pe_int pa_nil))) pa_nil))) (pa_cons (pe_tup (pa_cons (pe_tup (pa_cons (pe_tup (pa_cons (pe_tup (pa_cons pe_int (pa_cons pe_int pa_nil))) pa_nil)) (pa_cons (pe_tup (pa_cons (pe_tup (pa_cons pe_int (pa_cons pe_int pa_nil))) pa_nil)) (pa_cons (pe_tup (pa_cons (pe_tup (pa_cons pe_int (pa_cons pe_int pa_nil))) pa_nil)) pa_nil)))) (pa_cons (pe_tup (pa_cons pe_non (pa_cons pe_int (pa_cons pe_int pa_nil)))) pa_nil))) pa_nil))) (pg_seqK K 2 rfl (pgs_cons (pg_name (i := 0) sc.nd rfl (Or.inl rfl)) (pgs_cons (pg_name (i := 1) sc.nd rfl (Or.inr rfl)) pgs_nil))))
    (pss_cons (ps_set (i := 2) sc.nd rfl (Or.inl rfl) (pe_lst (pa_cons (pe_cal cplayed (hr.mono (by decide)) rfl (pa_cons (pv 0) (pa_cons (pe_tup (pa_cons pe_int (pa_cons pe_int (pa_cons pe_int pa_nil)))) (pa_cons pe_int (pa_cons pe_int pa_nil))))) (pa_cons (pe_cal cwords (hr.mono (by decide)) rfl (pa_cons (pv 0) (pa_cons (pe_tup (pa_cons pe_int (pa_cons pe_int (pa_cons pe_int pa_nil)))) (pa_cons pe_int (pa_cons pe_int pa_nil))))) pa_nil))))
    (pss_cons (ps_expr (pe_bm PySem.F.plainAttrs_list PySem.F.slot_list_append PySem.F.type_list_append mt_append (pv 2) (pa_cons (pe_lc (own := [("_law_own", 4)]) rfl sc.nd (pi_seqK K (pe_tup (pa_cons pe_int (pa_cons pe_int (pa_cons pe_int (pa_cons pe_int (pa_cons (pe_op op_pow pe_int pe_int) (pa_cons (pe_op op_sub (pe_op op_pow pe_int pe_int) pe_int) pa_nil)))))))) (blkOk_by (by rfl)) (fun _ _ _ _ _ => (pg_name (i := 4) sc.nd rfl (Or.inl rfl))) (fun _ _ _ _ _ => pts_nil) (fun _ _ _ _ _ => (pe_cal csaid_after (hr.mono (by decide)) rfl (pa_cons (pv 1) (pa_cons (pe_tup (pa_cons pe_int pa_nil)) (pa_cons pe_int (pa_cons (pv 4) pa_nil))))))) pa_nil)))
    (pss_cons (ps_set (i := 3) sc.nd rfl (Or.inl rfl) (pe_tup (pa_cons (pe_tup (pa_cons pe_int (pa_cons pe_int (pa_cons pe_non pa_nil)))) (pa_cons (pe_tup (pa_cons pe_int (pa_cons pe_int (pa_cons pe_non pa_nil)))) (pa_cons (pe_tup (pa_cons pe_int (pa_cons pe_int (pa_cons pe_int pa_nil)))) (pa_cons (pe_tup (pa_cons pe_int (pa_cons pe_int (pa_cons pe_int pa_nil)))) (pa_cons (pe_tup (pa_cons pe_int (pa_cons pe_int (pa_cons pe_int pa_nil)))) (pa_cons (pe_tup (pa_cons pe_int (pa_cons pe_int (pa_cons pe_int pa_nil)))) pa_nil))))))))
    (pss_one (ps_ret (pe_cal c_law_same (hr.mono (by decide)) rfl (pa_cons (pv 2) (pa_cons (pe_lst (pa_cons (pv 3) (pa_cons (pe_tup (pa_cons pe_int pa_nil)) (pa_cons (pe_lst (pa_cons pe_non (pa_cons pe_int (pa_cons pe_int (pa_cons pe_int (pa_cons pe_int (pa_cons pe_int pa_nil))))))) pa_nil)))) pa_nil))))))))), ?_⟩
  refine ex_seq (ex_asg (x := .tuple [walkD false turner, walkD false header]) (by walk_at "V") (gseq (two_ _ _) (evgs_cons evg_name (evgs_cons evg_name evgs_nil)) rfl)) ?_
  have cp : CPow 10 30 := ⟨by omega, by omega, by decide⟩
  have e121 : ∀ {δ : List Sl}, EvD (tTup (tCons (tC (.int 1)) (tCons (tC (.int 2)) (tCons (tC (.int 1)) tNil)))) δ (ringD false [1, 2, 1]) := etupl (eva_cons ev_int (eva_cons ev_int (eva_cons ev_int eva_nil))) rfl
  have e1 : ∀ {δ : List Sl}, EvD (tTup (tCons (tC (.int 1)) tNil)) δ (ringD false [1]) := etupl (eva_cons ev_int eva_nil) rfl
  refine ex_seq (ex_set (s := .m (handGot.take 2)) (elstM (eva_cons (ev_call (eva_cons (ev_v rfl) (eva_cons e121 (eva_cons ev_int (eva_cons ev_int eva_nil)))) ⟨false, false, turner, 2, [1, 2, 1], 0, 6, turner_ok, r121_ok, by decide, by decide, rfl, rfl⟩) (eva_cons (ev_call (eva_cons (ev_v rfl) (eva_cons e121 (eva_cons ev_int (eva_cons ev_int eva_nil)))) ⟨false, false, turner, 2, [1, 2, 1], 0, 6, turner_ok, r121_ok, by decide, by decide, rfl, rfl⟩) eva_nil)) rfl)) ?_
  refine ex_seq (ex_app (i := 2) (x := .list (handNs.map fun n => sayD (saidAt header [1] 0 (near 3 1 n)))) rfl (ev_lc _ (iseq (y := .tuple (handNs.map fun (n : Nat) => PyData.int (n : Int))) (by walk_at "V") rfl) (by rw [List.length_map, List.length_map]) (by exact sz_small (by decide)) fun i d e hd he => ?_) (by rw [sizeLine_eq]; decide)) ?_
  · obtain ⟨n, hn, rfl⟩ := map_at hd
    obtain ⟨n', hn', rfl⟩ := map_at he
    rw [hn] at hn'
    cases hn'
    exact ⟨_, _, evg_name, fun j h => h, ev_call (eva_cons (ev_v rfl) (eva_cons e1 (eva_cons ev_int (eva_cons (ev_v rfl) eva_nil)))) ⟨false, false, header, 1, [1], 0, n, 3, 1, header_ok, r1_ok, by decide, header_cyc, by decide, rfl, rfl⟩⟩
  refine ex_seq (ex_setD (x := handRows) (by walk_at "V")) ?_
  refine ex_frz (i := 2) (xs := handGot) rfl ?_
  rw [hand_eq]
  refine ex_ret (ev_call (ds := [.list handGoal, .list handGoal]) (eva_cons (ev_v rfl) (eva_cons (by walk_at "V") eva_nil)) ⟨.list handGoal, pl_hand, rfl, rfl⟩)
end
end L3
/-! W10: the walk of _law_right. -/
namespace L3
open PySem PySem.Spec PyProof.Rows L2
local macro_rules | `(tactic| walk_at "E") => `(tactic| first
  | (with_reducible exact ev_int)
  | (with_reducible exact ev_bl)
  | (with_reducible exact ev_non)
  | ((with_reducible apply ev_v); exact rfl)
  | ((with_reducible apply eix) <;> walk_at "E")
  | ((with_reducible apply elen) <;> walk_at "E")
  | ((with_reducible apply etup) <;> walk_at "E")
  | ((with_reducible apply etupl) <;> walk_at "E")
  | ((with_reducible apply elst) <;> walk_at "E")
  | (with_reducible exact eva_nil)
  | ((with_reducible apply eva_cons) <;> walk_at "E")
  | ((with_reducible apply ev_I0i) <;> walk_at "E")
  | ((with_reducible apply ev_I0b) <;> walk_at "E")
  | ((with_reducible apply ev_Ii) <;> walk_at "E")
  | ((with_reducible apply ev_neg) <;> walk_at "E")
  | ((with_reducible apply ev_isi2) <;> walk_at "E")
  | ((with_reducible apply ev_isi) <;> walk_at "E")
  | ((with_reducible apply ev_int1) <;> walk_at "E")
  | ((with_reducible apply evt_test) <;> walk_at "E")
  | ((with_reducible apply evt_b) <;> walk_at "E")
  | ((with_reducible apply evt_not) <;> walk_at "E")
  | ((with_reducible apply ev_isN) <;> walk_at "E")
  | ((with_reducible apply ev_notN) <;> walk_at "E")
  | ((with_reducible apply ev_call) <;> walk_at "E")
  | ((with_reducible apply ev_eqD) <;> walk_at "E")
  | ((with_reducible apply ev_neD) <;> walk_at "E")
  | ((with_reducible apply elstM) <;> walk_at "E")
  | ((with_reducible apply ex_seq) <;> walk_at "E")
  | ((with_reducible apply ex_retE) <;> walk_at "E")
  | ((with_reducible apply ex_asg) <;> walk_at "E")
  | ((with_reducible apply ex_setD) <;> walk_at "E")
  | (with_reducible exact ex_next)
  | (with_reducible exact evg_name)
  | (with_reducible exact evgs_nil)
  | ((with_reducible apply evgs_cons) <;> walk_at "E")
  | ((with_reducible apply gseq) <;> walk_at "E")
  | ((with_reducible apply ev_slice) <;> walk_at "E")
  | (with_reducible exact evo_none)
  | ((with_reducible apply evo_some) <;> walk_at "E")
  | (show (_ : Prop); assumption)
  | exact rfl
  | skip)
local macro_rules | `(tactic| walk_at "V") => `(tactic| ((apply ev_to) <;> walk_at "E"))
section
variable {P : Program} {w : World} {K : PySem.W.Frag} {mg : Str → Option Value} {base : Heap}
def RRight (ds : List PyData) (Po : PyData → Prop) (k : Nat) : Prop := ds = [] ∧ Po = (fun x => x = .bool true) ∧ k = 60
theorem sc__law_right : FnScope ["_law_tin", "_law_walker_here", "_law_ring_here", "_law_room", "_law_many", "_law_turn", "_law_rows", "_law_got", "_law_goal", "_law_ways", "_law_row", "_law_far_here", "_law_said", "_law_most", "_law_twice", "_law_other", "_law_back", "_law_own"] ["_law_tin"] (defScope (top 37)) := ⟨rfl, rfl, rfl, by decide +kernel, rfl, by decide +kernel, by decide +kernel⟩
theorem ok__law_right (T : Tx mg) (F : Def K mg "_law_right" ["_law_tin"] (top 37))
    (c_law_take : Cal P w K mg base "_law_take" ["_law_tin", "_law_below"] 1 (spT RTake)) (c_law_of : Cal P w K mg base "_law_of" ["_law_tin", "_law_goods"] 2 (spT ROf)) (c_law_walker : Cal P w K mg base "_law_walker" ["_law_tin"] 3 (spT RWalker)) (c_law_ring : Cal P w K mg base "_law_ring" ["_law_tin", "_law_wide"] 2 (spT RRing))
    (c_law_play : Cal P w K mg base "_law_play" ["_law_walker_here", "_law_ring_here", "_law_room", "_law_many"] 1 (spD RLPlay)) (c_law_lists : Cal P w K mg base "_law_lists" ["_law_matter"] 5 (spD (RLists 5))) (c_law_same : Cal P w K mg base "_law_same" ["_law_got", "_law_goal"] 6 (spD (RSame 6))) (c_law_far : Cal P w K mg base "_law_far" ["_law_rows", "_law_room", "_law_many"] 2 (spD RLFar)) (c_law_words : Cal P w K mg base "_law_words" ["_law_rows"] 1 (spD RLWords))
    (cplayed : Cal P w K mg base "played" ["walker", "ring", "room", "steps"] 3 (spD RPlayed)) (cwords : Cal P w K mg base "words" ["walker", "ring", "room", "steps"] 4 (spD RWords)) (csaid_after : Cal P w K mg base "said_after" ["walker", "ring", "room", "steps"] 4 (spD RSaidAfter)) (cis_walker : Cal P w K mg base "is_walker" ["thing"] 3 (spD RIsWalker)) (cwide_walked : Cal P w K mg base "wide_walked" ["walker"] 1 (spD RWideWalked))
    (cgoes_on : Cal P w K mg base "goes_on" ["walker"] 1 (spD RGoesOn)) (cmirrored_walker : Cal P w K mg base "mirrored_walker" ["walker"] 6 (spD RMirrored)) : Cal P w K mg base "_law_right" ["_law_tin"] 7 (spT RRight) := by
  have sc := sc__law_right
  refine def_okT F sc (fun ds P0 k h => ?_) fun f cdv A outer s H E tn c ds P0 m hr hc h => ?_
  · obtain ⟨rfl, _⟩ := h
    rfl
  obtain ⟨rfl, rfl, rfl⟩ := h
  refine ⟨_, (pss_cons (ps_set (i := 1) sc.nd rfl (Or.inr rfl) (pe_cal c_law_walker (hr.mono (by decide)) rfl (pa_cons (pv 0) pa_nil)))
    (pss_cons (ps_set (i := 2) sc.nd rfl (Or.inr rfl) (pe_cal c_law_ring (hr.mono (by decide)) rfl (pa_cons (pv 0) (pa_cons (pe_callB (lenK K) rfl T.len PySem.boot_len (pa_cons (pe_ix (ixK K) (pe_ix (ixK K) (pv 1) pe_int (fun _ _ => rfl)) pe_int (fun _ _ => rfl)) pa_nil)) pa_nil))))
    (pss_cons (ps_asg (pe_tup (pa_cons (pe_cal c_law_take (hr.mono (by decide)) rfl (pa_cons (pv 0) (pa_cons (pe_callB (lenK K) rfl T.len PySem.boot_len (pa_cons (pv 2) pa_nil)) pa_nil))) (pa_cons (pe_cal c_law_take (hr.mono (by decide)) rfl (pa_cons (pv 0) (pa_cons pe_int pa_nil))) (pa_cons (pe_cal c_law_take (hr.mono (by decide)) rfl (pa_cons (pv 0) (pa_cons (pe_callB (lenK K) rfl T.len PySem.boot_len (pa_cons (pv 2) pa_nil)) pa_nil))) pa_nil)))) (pg_seqK K 3 rfl (pgs_cons (pg_name (i := 3) sc.nd rfl (Or.inr rfl)) (pgs_cons (pg_name (i := 4) sc.nd rfl (Or.inl rfl)) (pgs_cons (pg_name (i := 5) sc.nd rfl (Or.inl rfl)) pgs_nil)))))
    (pss_cons (ps_set (i := 6) sc.nd rfl (Or.inr rfl) (pe_cal c_law_play (hr.mono (by decide)) rfl (pa_cons (pv 1) (pa_cons (pv 2) (pa_cons (pv 3) (pa_cons (pe_op op_add (pe_op op_mul (pe_op op_mul pe_int (pe_callB (lenK K) rfl T.len PySem.boot_len (pa_cons (pv 2) pa_nil))) (pe_callB (lenK K) rfl T.len PySem.boot_len (pa_cons (pe_ix (ixK K) (pv 1) pe_int (fun _ _ => rfl)) pa_nil))) pe_int) pa_nil))))))
    (pss_cons (ps_set (i := 7) sc.nd rfl (Or.inl rfl) (pe_lst (pa_cons (pe_cal cplayed (hr.mono (by decide)) rfl (pa_cons (pv 1) (pa_cons (pe_cal c_law_lists (hr.mono (by decide)) rfl (pa_cons (pv 2) pa_nil)) (pa_cons (pv 3) (pa_cons (pv 4) pa_nil))))) (pa_cons (pe_cal cwords (hr.mono (by decide)) rfl (pa_cons (pe_cal c_law_lists (hr.mono (by decide)) rfl (pa_cons (pv 1) pa_nil)) (pa_cons (pv 2) (pa_cons (pv 3) (pa_cons (pv 4) pa_nil))))) (pa_cons (pe_cal cis_walker (hr.mono (by decide)) rfl (pa_cons (pv 1) pa_nil)) (pa_cons (pe_cal cwide_walked (hr.mono (by decide)) rfl (pa_cons (pv 1) pa_nil)) pa_nil))))))
    (pss_cons (ps_set (i := 8) sc.nd rfl (Or.inl rfl) (pe_lst (pa_cons (pe_callTy (tupK K) rfl T.tuple PyProof.Rows.boot_tuple (pa_cons (pe_slice (slK K) (pv 6) po_none (po_some (pv 4))) pa_nil)) (pa_cons (pe_cal c_law_words (hr.mono (by decide)) rfl (pa_cons (pe_slice (slK K) (pv 6) po_none (po_some (pv 4))) pa_nil)) (pa_cons pe_bl (pa_cons (pe_callB (lenK K) rfl T.len PySem.boot_len (pa_cons (pe_ix (ixK K) (pe_ix (ixK K) (pv 1) pe_int (fun _ _ => rfl)) pe_int (fun _ _ => rfl)) pa_nil)) pa_nil))))))
    (pss_cons (ps_if (pt_not (pt_val (pe_cal c_law_same (hr.mono (by decide)) rfl (pa_cons (pv 7) (pa_cons (pv 8) pa_nil))))) (pss_one (ps_ret pe_bl)) pss_nil)
    (pss_cons (ps_set (i := 9) sc.nd rfl (Or.inl rfl) (pe_lst pa_nil))
    (pss_cons (ps_for PassesOwn.never rfl (pi_seqK K (pe_ix (ixK K) (pv 1) pe_int (fun _ _ => rfl))) (pg_name (i := 10) sc.nd rfl (Or.inl rfl))
      (pss_one (ps_set (i := 9) sc.nd rfl (Or.inl rfl) (pe_op (catK K) (pv 9) (pe_lc (own := [("_law_own", 17)]) rfl sc.nd (pi_seqK K (pv 10)) (blkOk_by (by rfl)) (fun _ _ _ _ _ => (pg_name (i := 17) sc.nd rfl (Or.inl rfl))) (fun _ _ _ _ _ => pts_nil) (fun _ _ _ _ _ => (pe_ix (ixK K) (pv 17) pe_int (fun _ _ => rfl))))))))
    (pss_cons (ps_set (i := 11) sc.nd rfl (Or.inl rfl) (pe_lst (pa_cons (pe_cal c_law_of (hr.mono (by decide)) rfl (pa_cons (pv 0) (pa_cons (pe_lst (pa_cons pe_int (pa_cons pe_int (pa_cons pe_int (pa_cons pe_int pa_nil))))) pa_nil))) (pa_cons (pe_op op_add pe_int (pe_cal c_law_take (hr.mono (by decide)) rfl (pa_cons (pv 0) (pa_cons pe_int pa_nil)))) (pa_cons (pe_op op_add (pe_op op_pow pe_int pe_int) (pe_cal c_law_take (hr.mono (by decide)) rfl (pa_cons (pv 0) (pa_cons pe_int pa_nil)))) (pa_cons (pe_op op_sub (pe_op op_pow pe_int pe_int) (pe_cal c_law_take (hr.mono (by decide)) rfl (pa_cons (pv 0) (pa_cons (pe_op op_pow pe_int pe_int) pa_nil)))) pa_nil))))))
    (pss_cons (ps_set (i := 7) sc.nd rfl (Or.inl rfl) (pe_lst (pa_cons (pe_lc (own := [("_law_own", 17)]) rfl sc.nd (pi_seqK K (pv 11)) (blkOk_by (by rfl)) (fun _ _ _ _ _ => (pg_name (i := 17) sc.nd rfl (Or.inl rfl))) (fun _ _ _ _ _ => pts_nil) (fun _ _ _ _ _ => (pe_cal csaid_after (hr.mono (by decide)) rfl (pa_cons (pv 1) (pa_cons (pv 2) (pa_cons (pv 3) (pa_cons (pv 17) pa_nil))))))) (pa_cons (pe_cal cgoes_on (hr.mono (by decide)) rfl (pa_cons (pv 1) pa_nil)) pa_nil))))
    (pss_cons (ps_if (pt_not (pt_val (pe_cal c_law_same (hr.mono (by decide)) rfl (pa_cons (pv 7) (pa_cons (pe_lst (pa_cons (pe_lc (own := [("_law_own", 17)]) rfl sc.nd (pi_seqK K (pv 11)) (blkOk_by (by rfl)) (fun _ _ _ _ _ => (pg_name (i := 17) sc.nd rfl (Or.inl rfl))) (fun _ _ _ _ _ => pts_nil) (fun _ _ _ _ _ => (pe_cal c_law_far (hr.mono (by decide)) rfl (pa_cons (pv 6) (pa_cons (pv 3) (pa_cons (pv 17) pa_nil)))))) (pa_cons (pe_cmpR (eqK K hr.units) (pv 9) (pe_op op_rep (pe_lst (pa_cons pe_int pa_nil)) (pe_callB (lenK K) rfl T.len PySem.boot_len (pa_cons (pv 9) pa_nil))) (nomark _)) pa_nil))) pa_nil))))) (pss_one (ps_ret pe_bl)) pss_nil)
    (pss_cons (ps_asg (pe_tup (pa_cons (pe_lc (own := [("_law_own", 17)]) rfl sc.nd (pi_seqK K (pe_slice (slK K) (pv 6) po_none (po_some (pv 4)))) (blkOk_by (by rfl)) (fun _ _ _ _ _ => (pg_name (i := 17) sc.nd rfl (Or.inl rfl))) (fun _ _ _ _ _ => pts_nil) (fun _ _ _ _ _ => (pe_ix (ixK K) (pv 17) pe_int (fun _ _ => rfl)))) (pa_cons (pe_op op_sub (pe_callB (lenK K) rfl T.len PySem.boot_len (pa_cons (pv 2) pa_nil)) pe_int) pa_nil))) (pg_seqK K 2 rfl (pgs_cons (pg_name (i := 12) sc.nd rfl (Or.inl rfl)) (pgs_cons (pg_name (i := 13) sc.nd rfl (Or.inr rfl)) pgs_nil))))
    (pss_cons (ps_set (i := 14) sc.nd rfl (Or.inl rfl) (pe_cal cplayed (hr.mono (by decide)) rfl (pa_cons (pv 1) (pa_cons (pe_op (catK K) (pv 2) (pv 2)) (pa_cons (pv 3) (pa_cons (pv 4) pa_nil))))))
    (pss_cons (ps_set (i := 15) sc.nd rfl (Or.inl rfl) (pe_cal cplayed (hr.mono (by decide)) rfl (pa_cons (pv 1) (pa_cons (pe_op (catK K) (pe_slice (slK K) (pv 2) (po_some (pv 5)) po_none) (pe_slice (slK K) (pv 2) po_none (po_some (pv 5)))) (pa_cons (pe_op op_mod (pe_callTy call_intX rfl T.int PyProof.Rows.boot_int (pa_cons (pe_op op_sub (pv 3) (pv 5)) pa_nil)) (pe_callB (lenK K) rfl T.len PySem.boot_len (pa_cons (pv 2) pa_nil))) (pa_cons (pv 4) pa_nil))))))
    (pss_cons (ps_if (pt_not (pt_val (pe_cal c_law_same (hr.mono (by decide)) rfl (pa_cons (pe_lst (pa_cons (pe_lc (own := [("_law_own", 17)]) rfl sc.nd (pi_seqK K (pv 14)) (blkOk_by (by rfl)) (fun _ _ _ _ _ => (pg_name (i := 17) sc.nd rfl (Or.inl rfl))) (fun _ _ _ _ _ => pts_nil) (fun _ _ _ _ _ => (pe_ix (ixK K) (pv 17) pe_int (fun _ _ => rfl)))) (pa_cons (pe_lc (own := [("_law_own", 17)]) rfl sc.nd (pi_seqK K (pv 15)) (blkOk_by (by rfl)) (fun _ _ _ _ _ => (pg_name (i := 17) sc.nd rfl (Or.inl rfl))) (fun _ _ _ _ _ => pts_nil) (fun _ _ _ _ _ => (pe_ix (ixK K) (pv 17) pe_int (fun _ _ => rfl)))) pa_nil))) (pa_cons (pe_lst (pa_cons (pv 12) (pa_cons (pv 12) pa_nil))) pa_nil))))) (pss_one (ps_ret pe_bl)) pss_nil)
    (pss_cons (ps_set (i := 16) sc.nd rfl (Or.inl rfl) (pe_tup (pa_cons (pe_callTy (tupK K) rfl T.tuple PyProof.Rows.boot_tuple (pa_cons (pe_lc (own := [("_law_row", 10)]) rfl sc.nd (pi_seqK K (pe_ix (ixK K) (pv 1) pe_int (fun _ _ => rfl))) (blkOk_by (by rfl)) (fun _ _ _ _ _ => (pg_name (i := 10) sc.nd rfl (Or.inl rfl))) (fun _ _ _ _ _ => pts_nil) (fun _ _ _ _ _ => (pe_callTy (tupK K) rfl T.tuple PyProof.Rows.boot_tuple (pa_cons (pe_lc (own := [("_law_own", 17)]) rfl sc.nd (pi_seqK K (pv 10)) (blkOk_by (by rfl)) (fun _ _ _ _ _ => (pg_name (i := 17) sc.nd rfl (Or.inl rfl))) (fun _ _ _ _ _ => pts_nil) (fun _ _ _ _ _ => (pe_tup (pa_cons (pe_ix (ixK K) (pv 17) pe_int (fun _ _ => rfl)) (pa_cons (pe_op op_sub pe_int (pe_ix (ixK K) (pv 17) pe_int (fun _ _ => rfl))) pa_nil))))) pa_nil)))) pa_nil)) (pa_cons (pe_ix (ixK K) (pv 1) pe_int (fun _ _ => rfl)) pa_nil))))
    (pss_cons (ps_set (i := 7) sc.nd rfl (Or.inl rfl) (pe_lst (pa_cons (pe_cal cmirrored_walker (hr.mono (by decide)) rfl (pa_cons (pv 1) pa_nil)) (pa_cons (pe_cal cplayed (hr.mono (by decide)) rfl (pa_cons (pe_cal cmirrored_walker (hr.mono (by decide)) rfl (pa_cons (pe_cal c_law_lists (hr.mono (by decide)) rfl (pa_cons (pv 1) pa_nil)) pa_nil)) (pa_cons (pe_revK K (pv 2)) (pa_cons (pe_op op_sub (pv 13) (pv 3)) (pa_cons (pv 4) pa_nil))))) pa_nil))))
    (pss_one (ps_ret (pe_cal c_law_same (hr.mono (by decide)) rfl (pa_cons (pv 7) (pa_cons (pe_lst (pa_cons (pv 16) (pa_cons (pe_callTy (tupK K) rfl T.tuple PyProof.Rows.boot_tuple (pa_cons (pe_lc (own := [("_law_own", 17)]) rfl sc.nd (pi_seqK K (pe_slice (slK K) (pv 6) po_none (po_some (pv 4)))) (blkOk_by (by rfl)) (fun _ _ _ _ _ => (pg_name (i := 17) sc.nd rfl (Or.inl rfl))) (fun _ _ _ _ _ => pts_nil) (fun _ _ _ _ _ => (pe_tup (pa_cons (pe_op op_sub (pv 13) (pe_ix (ixK K) (pv 17) pe_int (fun _ _ => rfl))) (pa_cons (pe_ix (ixK K) (pv 17) pe_int (fun _ _ => rfl)) (pa_cons (pe_ix (ixK K) (pv 17) pe_int (fun _ _ => rfl)) pa_nil)))))) pa_nil)) pa_nil))) pa_nil))))))))))))))))))))))), ?_⟩
  have draw : ∀ {δ : List Sl} {c b : Nat} {te : TE}, EvD te δ (.int (b : Int)) → 0 < b → b < 1073741824 → c + 1 ≤ 2000 → EvN tn (tCall (spT RTake) [] E0 (tCons (tVar 0) (tCons te tNil))) δ c (Blw b) (c + 1) := fun h h0 h1 h2 =>
    evn_call (eva_cons h eva_nil) ⟨_, h0, h1, rfl, rfl, rfl⟩ h2
  -- walker
  refine exn_seq (c1 := c + 45) (P1 := fun δ' => ∃ w wide, WOk w wide ∧ w.steps.length ≤ 6 ∧ SayOk w ∧ δ' = [.t tn, .d (walkD false w), .u, .u, .u, .u, .u, .u, .u, .u, .u, .u, .u, .u, .u, .u, .u, .u]) (exn_asg (evn_call eva_nil ⟨rfl, rfl, rfl⟩ (by omega)) fun x h => ?_) fun δ' _ h => ?_
  · obtain ⟨w, wide, W, h6, hs, rfl⟩ := h
    exact ⟨_, _, evg_name, rfl, w, wide, W, h6, hs, rfl⟩
  obtain ⟨w, wide, W, h6, hsay, rfl⟩ := h
  have g0 : getD (walkD false w) 0 = some (stepsD false w) := getW0
  have g1 : getD (stepsD false w) 0 = some (rowD false (row w 0)) := getRow (s := 0) W.pos
  have g2 : itemsD (rowD false (row w 0)) = some ((row w 0).map (moveD false)) := sq_items _ _
  have lw : ((row w 0).map (moveD false)).length = wide := by rw [List.length_map]; exact W.wid _ (row_mem W.pos)
  have w1 := W.w1
  have w3 := W.w3
  have wp := W.pos
  have ewide : ∀ {δ : List Sl}, δ[1]? = some (.d (walkD false w)) → EvD (tCB (rLen K) (tCons (tOp (rIx K) (tOp (rIx K) (tVar 1) (tC (.int 0))) (tC (.int 0))) tNil)) δ (.int (wide : Int)) := fun h => ev_to (elen (eix (eix (ev_v h) ev_int g0) ev_int g1) g2) (by rw [lw])
  -- ring
  refine exn_seq (c1 := c + 45 + 8) (P1 := fun δ' => ∃ r, ROk r wide ∧ r.length ≤ 7 ∧ δ' = [.t tn, .d (walkD false w), .d (ringD false r), .u, .u, .u, .u, .u, .u, .u, .u, .u, .u, .u, .u, .u, .u, .u]) (exn_asg (evn_call (eva_cons (ewide rfl) eva_nil) ⟨wide, w1, w3, rfl, rfl, rfl⟩ (by omega)) fun x h => ?_) fun δ' _ h => ?_
  · obtain ⟨r, R, h7, rfl⟩ := h
    exact ⟨_, _, evg_name, rfl, r, R, h7, rfl⟩
  obtain ⟨r, R, h7, rfl⟩ := h
  have g5 : itemsD (ringD false r) = some (r.map fun (l : Nat) => PyData.int (l : Int)) := itRing
  have lr : (r.map fun (l : Nat) => PyData.int (l : Int)).length = r.length := List.length_map _
  have rp := R.pos
  have elr : ∀ {δ : List Sl}, δ[2]? = some (.d (ringD false r)) → EvD (tCB (rLen K) (tCons (tVar 2) tNil)) δ (.int (r.length : Int)) := fun h => ev_to (elen (ev_v h) g5) (by rw [lr])
  -- room, many, turn
  refine exn_seq (c1 := c + 45 + 8 + 3) (P1 := fun δ' => ∃ room many turn : Nat, room < r.length ∧ many < 61 ∧ turn < r.length ∧ δ' = [.t tn, .d (walkD false w), .d (ringD false r), .d (.int (room : Int)), .d (.int (many : Int)), .d (.int (turn : Int)), .u, .u, .u, .u, .u, .u, .u, .u, .u, .u, .u, .u])
    (exn_asg (evn_tup (evna_cons (draw (elr rfl) (by omega) (by omega) (by omega)) (evna_cons (draw (b := 61) ev_int (by omega) (by omega) (by omega)) (evna_cons (draw (elr rfl) (by omega) (by omega) (by omega)) evna_nil))) fun xs h => ?_) fun x h => ?_) fun δ' _ h => ?_
  · obtain ⟨_, _, rfl, _, _, _, rfl, _, _, _, rfl, _, rfl⟩ := h
    show 3 ≤ 1000
    omega
  · obtain ⟨_, rfl, _, _, rfl, ⟨_, rfl, j1, rfl, h1⟩, _, _, rfl, ⟨_, rfl, j2, rfl, h2⟩, _, _, rfl, ⟨_, rfl, j3, rfl, h3⟩, rfl⟩ := h
    exact ⟨_, _, gseq rfl (evgs_cons evg_name (evgs_cons evg_name (evgs_cons evg_name evgs_nil))) rfl, rfl, j1, j2, j3, h1, h2, h3, rfl⟩
  obtain ⟨room, many, turn, hro, hmany, hturn, rfl⟩ := h
  obtain ⟨L, fi, C, hL⟩ := cyc_of W R hro
  have hb : r.length * w.steps.length ≤ 42 := by
    have := Nat.mul_le_mul h7 h6
    omega
  have eN : (3 * (r.length : Int) * (w.steps.length : Int) + 60) = ((3 * (r.length * w.steps.length) + 60 : Nat) : Int) := by
    rw [Int.natCast_add, Int.natCast_mul, Int.natCast_mul, Int.mul_assoc]
    rfl
  generalize hn : 3 * (r.length * w.steps.length) + 60 = n at eN
  -- rows
  refine exn_seqP (ex_setD (x := .list (rowsD w r room n)) (ev_call (eva_cons (ev_v rfl) (eva_cons (ev_v rfl) (eva_cons (ev_v rfl) (eva_cons (x := .int (n : Int)) (ev_to (ev_I0i (ev_Ii (ev_Ii ev_int (elr rfl) (.inl ⟨by omega, by omega⟩)) (elen (eix (ev_v rfl) ev_int g0) (rfl : itemsD (stepsD false w) = some (w.steps.map (rowD false)))) (.inl ⟨by omega, by omega⟩)) ev_int) ?_) eva_nil)))) ⟨false, false, w, wide, r, room, n, W, R, hro, by omega, rfl, rfl⟩)) rfl ?_
  · rw [List.length_map, eN]
  -- got, goal
  have ecut : ∀ {δ : List Sl}, δ[6]? = some (.d (.list (rowsD w r room n))) → δ[4]? = some (.d (.int (many : Int))) → EvD (tSl (rSlX K) (tVar 6) tNoPart (tPart (tVar 4))) δ (.list (rowsD w r room many)) := fun h h' => ev_to (ev_slice (k := true) (ev_v h) evo_none (evo_some (ev_v h'))) (by rw [cut_head, rowsD_take (by omega)]; rfl)
  refine exn_seqP (ex_setD (x := .list [.tuple (rowsD w r room many), .tuple ((wordsF (fun i => saidAt w r room (i + 1)) many).map sayD), .bool true, .int (wide : Int)]) (elst (eva_cons (ev_call (eva_cons (ev_v rfl) (eva_cons (x := ringD true r) (ev_call (eva_cons (ev_v rfl) eva_nil) ⟨ringD false r, pl_ring R 3 false, rfl, (toL_ring 3 false r).symm⟩) (eva_cons (ev_v rfl) (eva_cons (ev_v rfl) eva_nil)))) ⟨false, true, w, wide, r, room, many, W, R, hro, by omega, rfl, rfl⟩)
    (eva_cons (ev_call (eva_cons (x := walkD true w) (ev_call (eva_cons (ev_v rfl) eva_nil) ⟨walkD false w, pl_walk W false, rfl, (toL_walk false w).symm⟩) (eva_cons (ev_v rfl) (eva_cons (ev_v rfl) (eva_cons (ev_v rfl) eva_nil)))) ⟨true, false, w, wide, r, room, many, W, R, hro, by omega, rfl, rfl⟩)
    (eva_cons (ev_call (eva_cons (ev_v rfl) eva_nil) ⟨w, wide, W, hsay, rfl, rfl⟩) (eva_cons (ev_call (eva_cons (ev_v rfl) eva_nil) ⟨false, w, wide, W, rfl, rfl⟩) eva_nil)))) rfl)) rfl ?_
  refine exn_seqP (ex_setD (x := .list [.tuple (rowsD w r room many), .tuple ((wordsF (fun i => saidAt w r room (i + 1)) many).map sayD), .bool true, .int (wide : Int)]) (elst (eva_cons (etup (ecut rfl rfl) rfl) (eva_cons (ev_call (eva_cons (ecut rfl rfl) eva_nil) ⟨w, r, room, many, by omega, rfl, rfl⟩) (eva_cons ev_bl (eva_cons (ewide rfl) eva_nil)))) rfl)) rfl ?_
  have hwl : (wordsF (fun i => saidAt w r room (i + 1)) many).length ≤ 4000000 := by have := wordsF_length (fun i => saidAt w r room (i + 1)) many; omega
  refine exn_seqP (ex_ifF (evt_not (b := true) (evt_b (ev_call (eva_cons (ev_v rfl) (eva_cons (ev_v rfl) eva_nil)) ⟨_, pl_four (n := 4) (pl_rows (by omega)) (pl_says hwl false) (pl_bl _ _) (pl_int _ _), rfl, rfl⟩))) ex_next) rfl ?_
  -- ways
  refine exn_seqP (ex_setD (x := .list []) (elst eva_nil rfl)) rfl ?_
  have lS : (w.steps.map (rowD false)).length = w.steps.length := List.length_map _
  refine exn_seqP (ex_for (fun i => [.t tn, .d (walkD false w), .d (ringD false r), .d (.int (room : Int)), .d (.int (many : Int)), .d (.int (turn : Int)), .d (.list (rowsD w r room n)), .d (.list [.tuple (rowsD w r room many), .tuple ((wordsF (fun i => saidAt w r room (i + 1)) many).map sayD), .bool true, .int (wide : Int)]), .d (.list [.tuple (rowsD w r room many), .tuple ((wordsF (fun i => saidAt w r room (i + 1)) many).map sayD), .bool true, .int (wide : Int)]),
      .d (.list ((waysL (w.steps.take i)).map .int)), if i = 0 then .u else .d (rowD false (row w (i - 1))), .u, .u, .u, .u, .u, .u, .u]) (iseq (eix (ev_v rfl) ev_int g0) (rfl : itemsD (stepsD false w) = some (w.steps.map (rowD false)))) fun i d hd => ?_) rfl ?_
  · obtain ⟨ro, hro, rfl⟩ := map_at hd
    have ero : row w i = ro := by
      unfold row
      rw [List.getD_eq_getElem?_getD, hro]
      rfl
    have hway := ways_succ hro
    have hl1 := ways_take_len W i h6
    have hl2 := W.wid _ (mem_at hro)
    refine ⟨_, _, evg_name, ex_to (ex_setD (i := 9) (x := .list ((waysL (w.steps.take (i + 1))).map .int)) (ev_to (ev_cat (k := true) (ev_v rfl) (ev_lc (ro.map fun m => .int m.2) (iseq (ev_v rfl) (rfl : itemsD (rowD false ro) = some (ro.map (moveD false)))) (by rw [List.length_map, List.length_map]) (line_of (by rw [List.length_map]; omega)) fun j d e hd he => ?_) (line_of (by rw [List.length_map, List.length_map]; omega))) ?_)) ?_⟩
    · obtain ⟨m, hm, rfl⟩ := map_at hd
      obtain ⟨m', hm', rfl⟩ := map_at he
      rw [hm] at hm'
      cases hm'
      exact ⟨_, _, evg_name, fun j h => h, eix (y := moveD false m) (ev_v rfl) ev_int rfl⟩
    · rw [hway, List.map_append, List.map_map]
      rfl
    · rw [if_neg (Nat.succ_ne_zero i), Nat.add_sub_cancel, ero]
      rfl
  rw [lS, List.take_length, if_neg (show w.steps.length ≠ 0 by omega)]
  generalize rowD false (row w (w.steps.length - 1)) = lastrow
  -- far
  refine exn_seq (c1 := c + 45 + 8 + 3 + 4) (P1 := fun δ' => ∃ ns : List Nat, ns.length ≤ 1000 ∧ δ' = [.t tn, .d (walkD false w), .d (ringD false r), .d (.int (room : Int)), .d (.int (many : Int)), .d (.int (turn : Int)), .d (.list (rowsD w r room n)), .d (.list [.tuple (rowsD w r room many), .tuple ((wordsF (fun i => saidAt w r room (i + 1)) many).map sayD), .bool true, .int (wide : Int)]), .d (.list [.tuple (rowsD w r room many), .tuple ((wordsF (fun i => saidAt w r room (i + 1)) many).map sayD), .bool true, .int (wide : Int)]),
      .d (.list ((waysL w.steps).map .int)), .d lastrow, .d (.list (ns.map fun (n : Nat) => PyData.int (n : Int))), .u, .u, .u, .u, .u, .u])
    (exn_asg (P := fun x => ∃ ns : List Nat, ns.length ≤ 1000 ∧ x = .list (ns.map fun (n : Nat) => PyData.int (n : Int))) (evn_to (evn_lst (evna_cons (P := fun x => ∃ k : Nat, x = .int (k : Int)) (evn_to (evn_call (eva_cons (elst (eva_cons ev_int (eva_cons ev_int (eva_cons ev_int (eva_cons ev_int eva_nil)))) rfl) eva_nil) ⟨[.int 0, .int 1, .int 2, .int 59], by decide, by decide, rfl, rfl, rfl⟩ (by omega)) fun x h => ?_)
      (evna_cons (P := fun x => ∃ k : Nat, x = .int (k : Int)) (evn_to (evn_I0 (evn_to (evn_pure ev_int) fun x e => ⟨100, e, (rfl : (100 : Int) = 100)⟩) (draw (b := 200) ev_int (by omega) (by omega) (by omega))) fun x h => ?_)
      (evna_cons (P := fun x => ∃ k : Nat, x = .int (k : Int)) (evn_to (evn_I0 (p1 := fun i => i = 1000000000) (evn_to (evn_pure (ev_Ii ev_int ev_int (show CPow 10 9 from ⟨by omega, by omega, by decide⟩))) fun x e => ⟨(10 : Int) ^ (9 : Int).toNat, e, rfl⟩) (draw (b := 1000) ev_int (by omega) (by omega) (by omega))) fun x h => ?_)
      (evna_cons (P := fun x => ∃ k : Nat, x = .int (k : Int)) (evn_to (evn_I0 (p1 := fun i => i = 1000000000000000000000000000000) (evn_to (evn_pure (ev_Ii ev_int ev_int (show CPow 10 30 from ⟨by omega, by omega, by decide⟩))) fun x e => ⟨(10 : Int) ^ (30 : Int).toNat, e, rfl⟩) (draw (b := 1000000) (ev_to (ev_Ii ev_int ev_int (show CPow 10 6 from ⟨by omega, by omega, by decide⟩)) rfl) (by omega) (by omega) (by omega))) fun x h => ?_) evna_nil)))) fun xs h => ?_) fun x h => ?_) fun x h => ?_) fun δ' _ h => ?_
  · rcases List.mem_cons.mp h with rfl | h
    · exact ⟨0, rfl⟩
    rcases List.mem_cons.mp h with rfl | h
    · exact ⟨1, rfl⟩
    rcases List.mem_cons.mp h with rfl | h
    · exact ⟨2, rfl⟩
    rcases List.mem_cons.mp h with rfl | h
    · exact ⟨59, rfl⟩
    · cases h
  · obtain ⟨_, rfl, _, _, rfl, ⟨j, rfl, hj⟩, rfl⟩ := h
    exact ⟨100 + j, rfl⟩
  · obtain ⟨_, rfl, _, _, ei, ⟨j, rfl, hj⟩, rfl⟩ := h
    exact ⟨1000000000 + j, congrArg PyData.int (by rw [show _ = (1000000000 : Int) from ei]; omega)⟩
  · obtain ⟨_, rfl, _, _, ei, ⟨j, rfl, hj⟩, rfl⟩ := h
    exact ⟨1000000000000000000000000000000 - j, congrArg PyData.int (by rw [show _ = (1000000000000000000000000000000 : Int) from ei]; omega)⟩
  · obtain ⟨_, _, rfl, _, _, _, rfl, _, _, _, rfl, _, _, _, rfl, _, rfl⟩ := h
    show 4 ≤ 1000
    omega
  · obtain ⟨_, rfl, _, _, rfl, ⟨k1, rfl⟩, _, _, rfl, ⟨k2, rfl⟩, _, _, rfl, ⟨k3, rfl⟩, _, _, rfl, ⟨k4, rfl⟩, rfl⟩ := h
    exact ⟨[k1, k2, k3, k4], by show 4 ≤ 1000; omega, rfl⟩
  · obtain ⟨ns, hns, rfl⟩ := h
    exact ⟨_, _, evg_name, rfl, ns, hns, rfl⟩
  obtain ⟨ns, hns, rfl⟩ := h
  refine exn_to (exn_pure (o := .rt (.bool true)) ?_) (fun o e => ⟨_, e, rfl⟩) (Nat.le_refl _)
  -- got
  refine ex_seq (ex_setD (x := .list [.list (ns.map fun n => sayD (saidAt w r room (near L fi n))), .bool (goesB w)]) (elst (eva_cons (ev_lc _ (iseq (ev_v rfl) rfl) (by rw [List.length_map, List.length_map]) (line_of (by rw [List.length_map]; omega)) fun i d e hd he => ?_) (eva_cons (ev_call (eva_cons (ev_v rfl) eva_nil) ⟨w, wide, W, rfl, rfl⟩) eva_nil)) rfl)) ?_
  · obtain ⟨m, hm, rfl⟩ := map_at hd
    obtain ⟨m', hm', rfl⟩ := map_at he
    rw [hm] at hm'
    cases hm'
    exact ⟨_, _, evg_name, fun j h => h, ev_call (eva_cons (ev_v rfl) (eva_cons (ev_v rfl) (eva_cons (ev_v rfl) (eva_cons (ev_v rfl) eva_nil)))) ⟨false, false, w, wide, r, room, m, L, fi, W, R, hro, C, by omega, rfl, rfl⟩⟩
  have hwl2 : (waysL w.steps).length ≤ 18 := by have := ways_take_len W w.steps.length h6; rwa [List.take_length] at this
  have okW : ∀ xs : List Int, okD 1 (.list (xs.map .int)) := fun xs => okD_list fun x hx => by
    obtain ⟨i, _, rfl⟩ := List.mem_map.mp hx
    exact okD_int
  have okR : ∀ k : Nat, okD 1 (.list (List.replicate k (.int 1))) := fun k => okD_list fun x hx => by
    rw [List.eq_of_mem_replicate hx]
    exact okD_int
  refine ex_seq (ex_ifF (evt_not (b := true) (evt_b (ev_call (ds := [.list [.list (ns.map fun n => sayD (saidAt w r room (near L fi n))), .bool (goesB w)], .list [.list (ns.map fun n => sayD (saidAt w r room (near L fi n))), .bool (goesB w)]]) (eva_cons (ev_v rfl) (eva_cons (elst (eva_cons (ev_lc _ (iseq (ev_v rfl) rfl) (by rw [List.length_map, List.length_map]) (line_of (by rw [List.length_map]; omega)) fun i d e hd he => ?_) (eva_cons (ev_to (ev_eqD (ev_v rfl) (ev_rep1 (n := (waysL w.steps).length) (elst (eva_cons ev_int eva_nil) rfl) (ev_to (elen (ev_v rfl) rfl) (by rw [List.length_map])) (by omega)) ((okW _).shaped (by decide)) ((okR _).shaped (by decide))) ?_) eva_nil)) rfl) eva_nil)) ⟨_, ?_, rfl, rfl⟩))) ex_next) ?_
  · obtain ⟨m, hm, rfl⟩ := map_at hd
    obtain ⟨m', hm', rfl⟩ := map_at he
    rw [hm] at hm'
    cases hm'
    exact ⟨_, _, evg_name, fun j h => h, ev_call (eva_cons (ev_v rfl) (eva_cons (ev_v rfl) (eva_cons (ev_v rfl) eva_nil))) ⟨w, r, room, n, m, L, fi, C, by omega, by omega, rfl, rfl⟩⟩
  · rw [ways_all, ways_goes]
    rfl
  · refine pl_two (n := 4) ⟨by rw [List.length_map]; omega, fun x hx => ?_⟩ (pl_bl _ _)
    obtain ⟨k, _, rfl⟩ := List.mem_map.mp hx
    exact pl_say _ _
  -- said, most
  have third_ : ∀ {δ : List Sl} {w' : Wk} {r' : List Nat} {room' m : Nat} {te : TE} {y : PyData}, m ≤ 4000000 → EvD te δ y → itemsD y = some (rowsD w' r' room' m) → (∀ d, (wipeD δ [17]).set 17 (.d d) = δ.set 17 (.d d)) → δ.length = 18 → EvD (tLc (iSeq K te) (gName 17) tYes (tOp (rIx K) (tVar 17) (tC (.int 2))) [17]) δ (.list (saidsD w' r' room' m)) := fun hm he hy hw hl =>
    ev_lc _ (iseq he hy) (by rw [saidsD_length, rowsD_length]) (by rw [rowsD_length]; exact line_of hm) fun i d e hd he => ⟨_, _, evg_name, fun j h => h, eix (y := d) (ev_v (by rw [hw, List.getElem?_set_self (by rw [hl]; decide)])) ev_int (third hd he)⟩
  refine ex_seq (ex_asg (x := .tuple [.list (saidsD w r room many), .int ((r.length : Int) - 1)]) (etupl (eva_cons (third_ (by omega) (ecut rfl rfl) rfl (fun _ => rfl) rfl) (eva_cons (ev_I0i (elr rfl) ev_int) eva_nil)) rfl) (gseq (two_ _ _) (evgs_cons evg_name (evgs_cons evg_name evgs_nil)) rfl)) ?_
  -- twice, other
  have R2 := twice_ok R (by omega : r.length ≤ 500)
  refine ex_seq (ex_setD (x := .tuple (rowsD w (r ++ r) room many)) (ev_call (eva_cons (ev_v rfl) (eva_cons (x := ringD false (r ++ r)) (ev_to (ev_cat (k := false) (ev_v rfl) (ev_v rfl) (line_of (by rw [lr]; omega))) ring_cat) (eva_cons (ev_v rfl) (eva_cons (ev_v rfl) eva_nil)))) ⟨false, false, w, wide, r ++ r, room, many, W, R2, by rw [List.length_append]; omega, by omega, rfl, rfl⟩)) ?_
  have R3 := turn_ok R hturn
  have hr3 : 0 ≤ ((room : Int) - (turn : Int)) % (r.length : Int) := Int.emod_nonneg _ (by omega)
  have hr4 : ((room : Int) - (turn : Int)) % (r.length : Int) < (r.length : Int) := Int.emod_lt_of_pos _ (by omega)
  obtain ⟨room', er'⟩ : ∃ room' : Nat, (room' : Int) = ((room : Int) - (turn : Int)) % (r.length : Int) := ⟨_, Int.toNat_of_nonneg hr3⟩
  have hc1 : (0 : Int) < (r.length : Int) := by omega
  have eturn : ∀ {δ : List Sl}, δ[2]? = some (.d (ringD false r)) → δ[5]? = some (.d (.int (turn : Int))) → EvD (tOp (rCatX K) (tSl (rSlX K) (tVar 2) (tPart (tVar 5)) tNoPart) (tSl (rSlX K) (tVar 2) tNoPart (tPart (tVar 5)))) δ (ringD false (turnR r turn)) := fun h2 h5 => by
    refine ev_to (ev_cat (k := false) (ev_slice (k := false) (ev_v h2) (evo_some (ev_v h5)) evo_none) (ev_slice (k := false) (ev_v h2) evo_none (evo_some (ev_v h5))) ?_) ?_
    · rw [cut_tail, cut_head, List.length_drop, List.length_take, lr]
      exact line_of (by omega)
    · show PyData.tuple (_ ++ _) = _
      rw [cut_tail, cut_head, ← List.map_drop, ← List.map_take]
      exact ring_cat
  refine ex_seq (ex_setD (x := .tuple (rowsD w (turnR r turn) room' many)) (ev_call (eva_cons (ev_v rfl) (eva_cons (eturn rfl rfl) (eva_cons (x := .int (room' : Int)) (ev_to (ev_Ii (ev_int1 (ev_I0i (ev_v rfl) (ev_v rfl))) (elr rfl) hc1) (by rw [er'])) (eva_cons (ev_v rfl) eva_nil)))) ⟨false, false, w, wide, turnR r turn, room', many, W, R3, by rw [turn_len hturn]; omega, by omega, rfl, rfl⟩)) ?_
  refine ex_seq (ex_ifF (evt_not (b := true) (evt_b (ev_call (ds := [.list [.list (saidsD w r room many), .list (saidsD w r room many)], .list [.list (saidsD w r room many), .list (saidsD w r room many)]]) (eva_cons (ev_to (elst (eva_cons (third_ (te := tVar 14) (by omega) (ev_v rfl) rfl (fun _ => rfl) rfl) (eva_cons (third_ (te := tVar 15) (by omega) (ev_v rfl) rfl (fun _ => rfl) rfl) eva_nil)) rfl) ?_) (eva_cons (elst (eva_cons (ev_v rfl) (eva_cons (ev_v rfl) eva_nil)) rfl) eva_nil)) ⟨_, pl_two (n := 4) (pl_saids (by omega)) (pl_saids (by omega)), rfl, rfl⟩))) ex_next) ?_
  · rw [saids_eq (twice_said W R (by omega) hro) many, saids_eq (turn_said W R hro hturn room' er') many]
  -- back
  refine ex_seq (ex_setD (x := walkD false (mirW w)) (ev_to (etupl (eva_cons (etup (y := .list ((mirW w).steps.map (rowD false))) (ev_lc _ (iseq (eix (ev_v rfl) ev_int g0) (rfl : itemsD (stepsD false w) = some (w.steps.map (rowD false)))) (by show ((w.steps.map _).map _).length = _; rw [List.length_map, List.length_map, List.length_map]) (line_of (by rw [List.length_map]; omega)) fun i d e hd he => ?_) rfl) (eva_cons (eix (ev_v rfl) ev_int (getW1 (w := w) (k := false))) eva_nil)) rfl) ?_)) ?_
  · obtain ⟨ro, hro, rfl⟩ := map_at hd
    have he' : ((w.steps.map fun ro => ro.map mirM).map (rowD false))[i]? = some e := he
    obtain ⟨ro', hro', rfl⟩ := map_at he'
    obtain ⟨ro2, hro2, rfl⟩ := map_at hro'
    rw [hro] at hro2
    cases hro2
    refine ⟨_, _, evg_name, fun j h => h, etup (y := .list ((ro.map mirM).map (moveD false))) (ev_lc _ (iseq (ev_v rfl) (rfl : itemsD (rowD false ro) = some (ro.map (moveD false)))) (by rw [List.length_map, List.length_map, List.length_map]) (line_of (by rw [List.length_map, W.wid _ (mem_at hro)]; omega)) fun j d e hd he => ?_) rfl⟩
    obtain ⟨m, hm, rfl⟩ := map_at hd
    obtain ⟨m', hm', rfl⟩ := map_at he
    obtain ⟨m2, hm2, rfl⟩ := map_at hm'
    rw [hm] at hm2
    cases hm2
    refine ⟨_, _, evg_name, fun j h => h, ev_to (etupl (eva_cons (eix (y := moveD false m) (ev_v rfl) ev_int (x := .int (m.1 : Int)) rfl) (eva_cons (ev_I0i ev_int (eix (y := moveD false m) (ev_v rfl) ev_int (x := .int m.2) rfl)) eva_nil)) rfl) ?_⟩
    rw [Int.zero_sub]
    rfl
  · rfl
  -- got
  have WM := mirW_ok W
  have RM := rev_ok R
  refine ex_seq (ex_setD (x := .list [walkD false (mirW w), .tuple (rowsD (mirW w) r.reverse (r.length - 1 - room) many)]) (elst (eva_cons (ev_call (eva_cons (ev_v rfl) eva_nil) ⟨false, w, wide, W, rfl, rfl⟩) (eva_cons (ev_call (eva_cons (x := walkD false (mirW w)) (ev_call (eva_cons (x := walkD true w) (ev_call (eva_cons (ev_v rfl) eva_nil) ⟨walkD false w, pl_walk W false, rfl, (toL_walk false w).symm⟩) eva_nil) ⟨true, w, wide, W, rfl, rfl⟩)
    (eva_cons (x := ringD false r.reverse) (ev_to (erev (ev_v rfl)) ?_) (eva_cons (x := .int ((r.length - 1 - room : Nat) : Int)) (ev_to (ev_I0i (ev_v rfl) (ev_v rfl)) ?_) (eva_cons (ev_v rfl) eva_nil)))) ⟨false, false, mirW w, wide, r.reverse, r.length - 1 - room, many, WM, RM, by rw [List.length_reverse]; omega, by omega, rfl, rfl⟩) eva_nil)) rfl)) ?_
  · show PyData.tuple _ = PyData.tuple _
    rw [List.map_reverse]
  · exact congrArg PyData.int (by omega)
  -- the answer
  refine ex_ret (ev_call (ds := [.list [walkD false (mirW w), .tuple (rowsD (mirW w) r.reverse (r.length - 1 - room) many)], .list [walkD false (mirW w), .tuple (rowsD (mirW w) r.reverse (r.length - 1 - room) many)]]) (eva_cons (ev_v rfl) (eva_cons (elst (eva_cons (ev_v rfl) (eva_cons (etup (ev_lc (rowsD (mirW w) r.reverse (r.length - 1 - room) many) (iseq (ecut rfl rfl) rfl) (by rw [rowsD_length, rowsD_length]) (line_of (by rw [rowsD_length]; omega)) fun i d e hd he => ?_) rfl) eva_nil)) rfl) eva_nil)) ⟨_, pl_two (n := 4) (pl_walk WM false) (pl_rows (by omega)), rfl, rfl⟩)
  have hi : i < many := by
    have h1 := (List.getElem?_eq_some_iff.mp hd).1
    rw [rowsD_length] at h1
    exact h1
  rw [rowsD_get hi] at hd he
  cases hd
  cases he
  rw [mir_tri W R hro]
  exact ⟨_, _, evg_name, fun j h => h, etupl (eva_cons (ev_I0i (ev_v rfl) (eix (y := triAt w r room (i + 1)) (ev_v rfl) ev_int (x := .int ((pos w r room (i + 1)).1 : Int)) rfl)) (eva_cons (eix (y := triAt w r room (i + 1)) (ev_v rfl) ev_int rfl) (eva_cons (eix (y := triAt w r room (i + 1)) (ev_v rfl) ev_int rfl) eva_nil))) rfl⟩
end
end L3
/-! W11: the walk of _law_cells, law. -/
namespace L3
open PySem PySem.Spec PyProof.Rows L2
local macro_rules | `(tactic| walk_at "E") => `(tactic| first
  | (with_reducible exact ev_int)
  | (with_reducible exact ev_bl)
  | (with_reducible exact ev_non)
  | ((with_reducible apply ev_v); exact rfl)
  | ((with_reducible apply eix) <;> walk_at "E")
  | ((with_reducible apply elen) <;> walk_at "E")
  | ((with_reducible apply etup) <;> walk_at "E")
  | ((with_reducible apply etupl) <;> walk_at "E")
  | ((with_reducible apply elst) <;> walk_at "E")
  | (with_reducible exact eva_nil)
  | ((with_reducible apply eva_cons) <;> walk_at "E")
  | ((with_reducible apply ev_I0i) <;> walk_at "E")
  | ((with_reducible apply ev_I0b) <;> walk_at "E")
  | ((with_reducible apply ev_Ii) <;> walk_at "E")
  | ((with_reducible apply ev_neg) <;> walk_at "E")
  | ((with_reducible apply ev_isi2) <;> walk_at "E")
  | ((with_reducible apply ev_isi) <;> walk_at "E")
  | ((with_reducible apply ev_int1) <;> walk_at "E")
  | ((with_reducible apply evt_test) <;> walk_at "E")
  | ((with_reducible apply evt_b) <;> walk_at "E")
  | ((with_reducible apply evt_not) <;> walk_at "E")
  | ((with_reducible apply ev_isN) <;> walk_at "E")
  | ((with_reducible apply ev_notN) <;> walk_at "E")
  | ((with_reducible apply ev_call) <;> walk_at "E")
  | ((with_reducible apply ev_eqD) <;> walk_at "E")
  | ((with_reducible apply ev_neD) <;> walk_at "E")
  | ((with_reducible apply elstM) <;> walk_at "E")
  | ((with_reducible apply ex_seq) <;> walk_at "E")
  | ((with_reducible apply ex_retE) <;> walk_at "E")
  | ((with_reducible apply ex_asg) <;> walk_at "E")
  | ((with_reducible apply ex_setD) <;> walk_at "E")
  | (with_reducible exact ex_next)
  | (with_reducible exact evg_name)
  | (with_reducible exact evgs_nil)
  | ((with_reducible apply evgs_cons) <;> walk_at "E")
  | ((with_reducible apply gseq) <;> walk_at "E")
  | ((with_reducible apply ev_slice) <;> walk_at "E")
  | (with_reducible exact evo_none)
  | ((with_reducible apply evo_some) <;> walk_at "E")
  | (show (_ : Prop); assumption)
  | exact rfl
  | skip)
local macro_rules | `(tactic| walk_at "V") => `(tactic| ((apply ev_to) <;> walk_at "E"))
theorem Fr.blank {S H : Hp} {σ : L2.St} (e : Same S H) : Fr H S H σ (List.replicate σ.length .u) := by
  have only : ∀ (i : Nat) (s : Sl), (List.replicate σ.length Sl.u)[i]? = some s → s = .u := fun i s h => by
    rw [List.getElem?_replicate] at h
    split at h
    · cases h; rfl
    · cases h
  refine ⟨by rw [List.length_replicate], e, fun _ h => h, fun i s h => .inl (only i s h), fun i s p h o => ?_, fun i j s s' p h h' m => ?_⟩
  · rw [only i s h] at o; cases o
  · rw [only i s h] at m; cases m
/-- a loop over what is known already -/
theorem for_core {g : TG} {tb : TS} {ds : List PyData} {J : It} {B S1 H1 : Hp} {σ : L2.St} {D : Ends} (f : Nat → List Sl) (ok : ItOk J S1 ds) (fr : Fr B S1 H1 σ (f 0))
    (hs : ∀ (i : Nat) (d : PyData), ds[i]? = some d → ∃ vs δ', EvG g (f i) d vs δ' ∧ Ex tb δ' (.nx (f (i + 1)))) (a : ∀ S' H' σ', XB NoM B S1 H1 S' H' → Fr B S' H' σ' (f ds.length) → D.nx σ' H') :
    ∃ W : Nat → Nat → L2.St → Hp → Prop, (∃ m, W 0 m σ H1) ∧ ∀ i m σ H, W i m σ H →
      (J.stop i H ∧ D.nx σ H) ∨ (J.go i H ∧ ∃ N : L2.St → Hp → Prop, (∀ σ' H', N σ' H' → ∃ m', m' < m ∧ W (i + 1) m' σ' H') ∧ ∀ x H', J.yld i H x H' → g x σ H' fun σ2 H2 => tb { D with nx := N, ct := N, bk := D.nx } σ2 H2) := by
  refine ⟨fun i m σ2 H2 => m = ds.length - i ∧ i ≤ ds.length ∧ ∃ S2, XB NoM B S1 H1 S2 H2 ∧ Fr B S2 H2 σ2 (f i), ⟨ds.length, by simp, Nat.zero_le _, S1, XB.refl fr.sub, fr⟩, ?_⟩
  rintro i m σ2 H2 ⟨rfl, hle, S2, x2, f2⟩
  have eH : Same S1 H2 := x2.st.trans x2.sub
  by_cases hlt : i < ds.length
  · refine .inr ⟨ok.go i H2 eH hlt, fun σ' H' => i + 1 ≤ ds.length ∧ ∃ S2, XB NoM B S1 H1 S2 H' ∧ Fr B S2 H' σ' (f (i + 1)), fun σ' H' h => ⟨ds.length - (i + 1), by omega, rfl, h⟩, fun x H' y => ?_⟩
    obtain ⟨S3, d, x3, hd, dd⟩ := ok.yld i H2 x H' S2 x2.st x2.sub hlt y
    obtain ⟨vs, δ', hg, hb⟩ := hs i d hd
    exact hg B S3 H' σ2 x _ (f2.ext x3) dd fun σ' f4 _ _ => hb B S3 H' σ' _ f4 fun S5 H5 σ5 x5 f5 => ⟨hlt, S5, (x2.trans (x3.low f2.dB)).trans x5, f5⟩
  · have e : i = ds.length := by omega
    subst e
    exact .inl ⟨ok.stop H2 eH, a S2 H2 σ2 x2 f2⟩
theorem itok_enum {K : PySem.W.Frag} {S : Hp} {p : Addr} {vs : List V} {ds : List PyData} (hp : S p = some (.lst vs)) (c : DtAll S vs ds) : ItOk (Ite K p) S (ds.mapIdx fun i d => .tuple [.int (i : Int), d]) where
  go := fun i H e hi => by
    rw [List.length_mapIdx] at hi
    exact ⟨vs, vs[i]'(by rw [c.length]; exact hi), SqL.of (e _ _ hp), List.getElem?_eq_getElem _⟩
  stop := fun H e => by
    rw [List.length_mapIdx]
    exact ⟨vs, SqL.of (e _ _ hp), Nat.le_of_eq c.length⟩
  yld := fun i H x H' S2 e1 e2 hi y => by
    obtain ⟨T, x0, rfl, hT, rfl, y⟩ := y
    obtain ⟨d, hd, dd⟩ := c.getV (y vs (SqL.of (e2 _ _ (e1 _ _ hp))))
    exact ⟨upd S2 T (.tup [.int (i : Nat), x0]), _, Xt.fresh e2 hT, by rw [List.getElem?_mapIdx, hd] <;> rfl, .tup upd_same (.cons (.int _) (.one ((dd.up e1).up (same_upd (e2.free hT)))))⟩
theorem six_n (l d n : Nat) : HT.sIx l d (some (n : Int)) = min n l := by
  show (if (n : Int) < 0 then ((n : Int) + (l : Int)).toNat else min (n : Int).toNat l) = _
  rw [if_neg (by omega), Int.toNat_natCast]
theorem cut_ints1 (ns : List Int) : ∃ zs : List Int, cutV (ns.map V.int) none (some 2) = zs.map V.int ∧ zs.length = min 2 ns.length := by
  refine ⟨(ns.drop 0).take (min 2 ns.length - 0), ?_, by rw [List.length_take, List.drop_zero]; omega⟩
  unfold cutV
  rw [show (some (2 : Int)) = some ((2 : Nat) : Int) from rfl, six_n, List.length_map, ← List.map_drop, ← List.map_take]
  rfl
theorem cut_ints2 (ns : List Int) : ∃ zs : List Int, cutV (ns.map V.int) (some 2) (some 63) = zs.map V.int ∧ zs.length = min 63 ns.length - min 2 ns.length := by
  refine ⟨(ns.drop (min 2 ns.length)).take (min 63 ns.length - min 2 ns.length), ?_, by rw [List.length_take, List.length_drop]; omega⟩
  unfold cutV
  rw [show (some (2 : Int)) = some ((2 : Nat) : Int) from rfl, show (some (63 : Int)) = some ((63 : Nat) : Int) from rfl, six_n, six_n, List.length_map, ← List.map_drop, ← List.map_take]
/-- the cells behind i turns -/
def mixC (cs zs : List Int) : Nat → List Int
  | 0 => cs
  | i + 1 => (mixC cs zs i).set (i % 2) ((mixC cs zs i).getD (i % 2) 0 + zs.getD i 0 * ((i : Int) + 2))
theorem mixC_len (cs zs : List Int) : ∀ i, (mixC cs zs i).length = cs.length
  | 0 => rfl
  | i + 1 => by
    show ((mixC cs zs i).set _ _).length = _
    rw [List.length_set]
    exact mixC_len cs zs i
theorem map_set_ints (xs : List Int) (k : Nat) (x : Int) : (xs.map PyData.int).set k (.int x) = (xs.set k x).map PyData.int := by
  rw [List.map_set]
section
variable {P : Program} {w : World} {K : PySem.W.Frag} {mg : Str → Option Value} {base : Heap}
/-! ### _law_cells -/
def spCells (K : PySem.W.Frag) : Sp := fun vs H Q _ => ∃ a ns, vs = [.ref a, .int 2] ∧ SqL K H a ((ns : List Int).map V.int) ∧ ns.length ≤ 63 ∧
  ∀ p H' cs, Same H H' → H p = none → H' p = some (.lst ((cs : List Int).map V.int)) → 1 ≤ cs.length → cs.length ≤ 2 → Q (.ref p) H'
theorem sc__law_cells : FnScope ["_law_script", "_law_most", "_law_cells_here", "_law_k", "_law_cell", "_law_spot"] ["_law_script", "_law_most"] (defScope (top 26)) := ⟨rfl, rfl, rfl, by decide +kernel, rfl, by decide +kernel, by decide +kernel⟩
theorem ok__law_cells (T : Tx mg) (F : Def K mg "_law_cells" ["_law_script", "_law_most"] (top 26)) : Cal P w K mg base "_law_cells" ["_law_script", "_law_most"] 1 (spCells K) := by
  have sc := sc__law_cells
  obtain ⟨f, fd, F0, hm, hbd⟩ := F.ex
  refine ⟨f, fd, F0.ok sc (fun vs H Q E h => ?_) (fun cdv A outer s H vs Q E hr h => ?_), hm, F0.kp, hbd⟩
  · obtain ⟨a, ns, rfl, _⟩ := h
    rfl
  obtain ⟨a, ns, rfl, hS, h63, q⟩ := h
  refine ⟨_, (pss_cons (ps_set (i := 2) sc.nd rfl (Or.inl rfl) (pe_orT (pe_callTy call_list_of rfl T.list PyProof.Rows.boot_list (pa_cons (pe_slice (slK K) (pv 0) po_none (po_some (pv 1))) pa_nil)) (pe_one (pe_lst (pa_cons pe_int pa_nil)))))
    (pss_cons (ps_for PassesOwn.never rfl (pi_enumK K rfl T.enumerate (pa_cons (pe_slice (slK K) (pv 0) (po_some (pv 1)) (po_some pe_int)) pa_nil)) (pg_seqK K 2 rfl (pgs_cons (pg_name (i := 3) sc.nd rfl (Or.inl rfl)) (pgs_cons (pg_name (i := 4) sc.nd rfl (Or.inl rfl)) pgs_nil)))
      (pss_cons (ps_set (i := 5) sc.nd rfl (Or.inl rfl) (pe_op op_mod (pe_callTy call_intX rfl T.int PyProof.Rows.boot_int (pa_cons (pv 3) pa_nil)) (pv 1)))
      (pss_one (ps_asg (pe_op op_add (pe_ix (ixK K) (pv 2) (pv 5) (fun _ _ => rfl)) (pe_op op_mul (pv 4) (pe_op op_add (pv 3) pe_int))) (pg_sub (pv 2) (pv 5) set_list)))))
    (pss_one (ps_ret (pv 2))))), ?_⟩
  obtain ⟨z1, ez1, lz1⟩ := cut_ints1 ns
  obtain ⟨z2, ez2, lz2⟩ := cut_ints2 ns
  -- what is done behind the first list
  have rest : ∀ (p : Addr) (H2 : Hp) (cs : List Int), Same H H2 → H p = none → H2 p = some (.lst (cs.map V.int)) → 1 ≤ cs.length → cs.length ≤ 2 → (3 ≤ ns.length → cs.length = 2) → ∀ (D : Ends), D.rt = Q →
      (tSeq (tFor (iEnum K (tCons (tSl (rSlX K) (tVar 0) (tPart (tVar 1)) (tPart (tC (.int 63)))) tNil)) (gSeq K 2 (gCons (gName 3) (gCons (gName 4) gNil))) (tSeq (tAsg (tOp (rI (fun i j => 0 < j) fun i j => .int (i % j)) (tCB rInt1 (tCons (tVar 3) tNil)) (tVar 1)) (gName 5)) (tAsg (tOp (rI0 fun i j => .int (i + j)) (tOp (rIx K) (tVar 2) (tVar 5)) (tOp (rI CMul fun i j => .int (i * j)) (tVar 4) (tOp (rI0 fun i j => .int (i + j)) (tVar 3) (tC (.int 2))))) (gSub (tVar 2) (tVar 5) rSetL)))) (tRet (tVar 2))) D [some (.ref a), some (.int 2), some (.ref p), none, none, none] H2 := by
    intro p H2 cs e2 hp hp2 c1 c2 c3 D hD
    refine ⟨.ref a, rfl, ⟨.int 2, rfl, 2, rfl, 63, rfl, .inl ⟨a, _, rfl, e2.seq hS, fun y hy => ?_⟩⟩⟩
    rw [ez2]
    refine ⟨y, _, rfl, SqL.of upd_same, ?_⟩
    -- the frame
    have f0 : Fr H (fun _ => none) H [some (.ref a), some (.int 2), some (.ref p), none, none, none] [.u, .u, .u, .u, .u, .u] := Fr.blank fun b o z => by cases z
    have f1 : Fr H (fun _ => none) H [some (.ref a), some (.int 2), some (.ref p), none, none, none] [.u, .d (.int 2), .u, .u, .u, .u] := f0.setD (i := 1) (v := .int 2) (.int 2)
    have x2 : Xt (fun _ => none) H (fun _ => none) H2 := ⟨fun _ _ z => z, fun b o _ _ z => e2 b o z, fun b z => e2.free z, fun b o z => (by cases z), fun b o z => (by cases z)⟩
    have f2 : Fr H (fun _ => none) H2 [some (.ref a), some (.int 2), some (.ref p), none, none, none] [.u, .d (.int 2), .m (cs.map .int), .u, .u, .u] := (f1.ext x2).setM (i := 2) (v := .ref p) (s0 := .m (cs.map .int)) f1 ⟨p, _, rfl, rfl, hp2, DtAll.ints cs⟩ fun _ => ⟨rfl, fun q e => by cases e; exact hp⟩
    have x3 : Xt (fun _ => none) H2 (upd (fun _ => none) y (.lst (z2.map V.int))) (upd H2 y (.lst (z2.map V.int))) := Xt.fresh (fun b o z => by cases z) hy
    have f3 := f2.ext x3
    refine for_core (fun i => [.u, .d (.int 2), .m ((mixC cs z2 i).map .int), if i = 0 then .u else .d (.int ((i - 1 : Nat) : Int)), if i = 0 then .u else .d (.int (z2.getD (i - 1) 0)), if i = 0 then .u else .d (.int (((i - 1) % 2 : Nat) : Int))]) (itok_enum (K := K) (ds := z2.map .int) upd_same (DtAll.ints z2)) f3 (fun i d hd => ?_) fun S' H' σ' x' f' => ?_
    · have hi : i < z2.length := by
        have h1 := (List.getElem?_eq_some_iff.mp hd).1
        rwa [List.length_mapIdx, List.length_map] at h1
      have hd' : ((z2.map PyData.int).mapIdx fun i d => PyData.tuple [.int (i : Int), d])[i]? = some (.tuple [.int (i : Int), .int (z2.getD i 0)]) := by
        rw [List.getElem?_mapIdx, List.getElem?_map, List.getElem?_eq_getElem hi, List.getD_eq_getElem?_getD, List.getElem?_eq_getElem hi]
        rfl
      rw [hd'] at hd
      cases hd
      have hcs : cs.length = 2 := c3 (by omega)
      have hm2 : i % 2 < 2 := Nat.mod_lt _ (by omega)
      have hml := mixC_len cs z2 i
      refine ⟨_, _, gseq (two_ _ _) (evgs_cons evg_name (evgs_cons evg_name evgs_nil)) rfl, ?_⟩
      refine ex_seq (ex_setD (x := .int ((i % 2 : Nat) : Int)) (ev_to (ev_Ii (ev_int1 (ev_v rfl)) (ev_v rfl) (by decide)) (congrArg PyData.int (by omega)))) ?_
      have hat : L2.atI ((mixC cs z2 i).map PyData.int) ((i % 2 : Nat) : Int) = some (.int ((mixC cs z2 i).getD (i % 2) 0)) := by
        refine atI_nat ?_
        rw [List.getElem?_map, List.getElem?_eq_getElem (by omega), List.getD_eq_getElem?_getD, List.getElem?_eq_getElem (by omega)]
        rfl
      refine ex_to (ex_setM (i := 2) (k := i % 2) (x := .int ((mixC cs z2 i).getD (i % 2) 0 + z2.getD i 0 * ((i : Int) + 2))) rfl (ev_to (ev_I0i (ev_ixM (i := 2) rfl (ev_v rfl) hat) (ev_Ii (ev_v rfl) (ev_I0i (ev_v rfl) ev_int) (.inr ⟨by omega, by omega⟩))) rfl) (ev_v rfl) (by rw [List.length_map]; omega)) ?_
      · show [_, _, Sl.m (((mixC cs z2 i).map PyData.int).set (i % 2) (.int _)), _, _, _] = [_, _, Sl.m ((mixC cs z2 (i + 1)).map PyData.int), _, _, _]
        rw [map_set_ints, if_neg (Nat.succ_ne_zero i), if_neg (Nat.succ_ne_zero i), if_neg (Nat.succ_ne_zero i), Nat.add_sub_cancel]
        rfl
    · rcases f'.val 2 _ rfl with z | ⟨v, ev, p', vs, rfl, hS', hH', dd⟩
      · cases z
      refine ⟨_, ev, ?_⟩
      have evs := DtAll.of_ints dd
      subst evs
      rw [hD]
      refine q p' H' _ (fun b o hb => ?_) (f'.own 2 _ p' rfl rfl ev) hH' (by rw [mixC_len]; exact c1) (by rw [mixC_len]; exact c2)
      exact x'.keep b o (fun z => z) (by rw [hb]; intro z; cases z) (same_upd hy b o (e2 b o hb))
  -- the first list
  refine ⟨.ref a, rfl, .int 2, rfl, 2, rfl, .inl ⟨a, _, rfl, hS, fun x hx => ?_⟩⟩
  rw [ez1]
  refine ⟨x, _, rfl, .inl (SqL.of upd_same), fun p hp => ?_⟩
  have hpH : H p = none := (same_upd hx).free hp
  have e2 : Same H (upd (upd H x (.lst (z1.map V.int))) p (.lst (z1.map V.int))) := (same_upd hx).trans (same_upd hp)
  refine ⟨_, .inl ⟨_, SqL.of upd_same, rfl⟩, ?_⟩
  cases z1 with
  | nil =>
    refine iteF ⟨by show 1 ≤ sizeLine; decide, fun y hy => ?_⟩
    exact rest y _ [0] (e2.trans (same_upd hy)) (e2.free hy) upd_same (by decide) (by decide) (fun h => by rw [List.length_nil] at lz1; omega) _ rfl
  | cons z zs =>
    refine iteT ?_
    exact rest p _ (z :: zs) e2 hpH upd_same (by rw [List.length_cons]; omega) (by omega) (fun h => by omega) _ rfl
/-! ### law -/
def spLaw (K : PySem.W.Frag) : Sp := fun vs H Q _ => ∃ a ns, vs = [.ref a] ∧ SqL K H a ((ns : List Int).map V.int) ∧ ns.length ≤ 63 ∧ ∀ H', Q (.bl true) H'
theorem sc_law : FnScope ["_law_script", "_law_cells_here", "_law_k"] ["_law_script"] (defScope (top 38)) := ⟨rfl, rfl, rfl, by decide +kernel, rfl, by decide +kernel, by decide +kernel⟩
theorem xt_cut {tn : Addr} {S H S1 H1 S2 H2 : Hp} (x1 : Xt S H S1 H1) (hp : H tn = none) (x2 : XT tn S1 H1 S2 H2) : Xt S H S2 H2 :=
  ⟨x1.st.trans x2.st, fun b o _ hb e => x2.keep b o (fun z => by have z : b = tn := z; subst z; rw [hp] at e; cases e) (by rw [x1.same b o e]; intro z; cases z) (x1.same b o e), fun b z => x1.dom b (x2.dom b z), x2.sub, fun b o e => (x2.new b o e).elim (x1.new b o) fun z => .inr (x1.dom b z)⟩
theorem ok_law {f : Addr} {fd : FuncData} (T : Tx mg) (F0 : Fun K "law" "law" (top 38) f fd) (c_law_by_hand_right : Cal P w K mg base "_law_by_hand_right" [] 6 (spD RByHand)) (c_law_cells : Cal P w K mg base "_law_cells" ["_law_script", "_law_most"] 1 (spCells K)) (c_law_box : Cal P w K mg base "_law_box" ["_law_script", "_law_k"] 1 spB)
    (c_law_right : Cal P w K mg base "_law_right" ["_law_tin"] 7 (spT RRight)) : FnOk P w K mg base CX0 8 f fd ["_law_script"] (spLaw K) := by
  have sc := sc_law
  refine F0.ok sc (fun vs H Q E h => ?_) (fun cdv A outer s H vs Q E hr h => ?_)
  · obtain ⟨a, ns, rfl, _⟩ := h
    rfl
  obtain ⟨a, ns, rfl, hS, h63, q⟩ := h
  refine ⟨_, (pss_cons (ps_if (pt_not (pt_val (pe_cal0 c_law_by_hand_right (hr.mono (by decide)) rfl))) (pss_one (ps_ret pe_bl)) pss_nil)
    (pss_cons (ps_set (i := 1) sc.nd rfl (Or.inr rfl) (pe_cal c_law_cells (hr.mono (by decide)) rfl (pa_cons (pv 0) (pa_cons pe_int pa_nil))))
    (pss_one (ps_ret (pe_callB (allK K rfl) rfl T.all (by decide +kernel) (pa_cons (pe_lc (own := [("_law_k", 2)]) rfl sc.nd (pi_range1 rfl T.range (pa_cons (pe_callB (lenK K) rfl T.len PySem.boot_len (pa_cons (pv 1) pa_nil)) pa_nil)) (blkOk_by (by rfl)) (fun _ _ _ _ _ => (pg_name (i := 2) sc.nd rfl (Or.inl rfl))) (fun _ _ _ _ _ => pts_nil) (fun _ _ _ _ _ => (pe_cal c_law_right (hr.mono (by decide)) rfl (pa_cons (pe_cal c_law_box (hr.mono (by decide)) rfl (pa_cons (pv 1) (pa_cons (pv 2) pa_nil))) pa_nil)))) pa_nil)))))), ?_⟩
  have e0 : ∀ H : Hp, Same (fun _ => none) H := fun H b o z => by cases z
  refine ⟨fun _ => none, [], .bool true, e0 _, .nil, ⟨rfl, rfl⟩, fun v S1 H1 x1 d1 => ⟨true, d1.isBl, iteF ?_⟩⟩
  refine ⟨.ref a, rfl, a, ns, rfl, x1.same.seq hS, h63, fun p H2 cs e2 hp hp2 c1 c2 => ?_⟩
  have f0 : Fr H2 (upd (fun _ => none) p (.lst (cs.map V.int))) H2 [some (.ref a), some (.ref p), none] [.u, .u, .u] := Fr.blank fun b o z => by
    by_cases hb : b = p
    · subst hb; rw [upd_same] at z; rw [hp2]; exact z
    · rw [upd_ne hb] at z; cases z
  have f1 : Fr H2 (upd (fun _ => none) p (.lst (cs.map V.int))) H2 [some (.ref a), some (.ref p), none] [.u, .d (.list (cs.map .int)), .u] := f0.setD (i := 1) (v := .ref p) (.lst upd_same (DtAll.ints cs))
  refine EvD.run (x := .bool true) (ev_allT (evi_range (n := (cs.length : Int)) (eva_cons (ev_to (elen (ev_v rfl) rfl) (by rw [List.length_map])) eva_nil) (by omega) (by omega)) (by rw [List.length_map, List.length_range, Int.toNat_natCast]; exact sz_small (by omega)) fun i d hd => ?_) f1 fun v S' H' x' d' => ?_
  · have hi : i < cs.length := by
      have h1 := (List.getElem?_eq_some_iff.mp hd).1
      rwa [List.length_map, List.length_range, Int.toNat_natCast] at h1
    rw [List.getElem?_map, List.getElem?_range (by rw [Int.toNat_natCast]; exact hi)] at hd
    cases hd
    refine ⟨_, _, evg_name, fun j h => h, .mk fun B S H σ Q f q => ?_⟩
    have hargs : ∀ {δ : List Sl}, δ[1]? = some (.d (.list (cs.map .int))) → δ[2]? = some (.d (.int (i : Int))) → EvA (tCons (tVar 1) (tCons (tVar 2) tNil)) δ [.list (cs.map .int), .int (i : Int)] := fun h1 h2 => eva_cons (ev_v h1) (eva_cons (ev_v h2) eva_nil)
    refine hargs rfl rfl B S H σ (fun vs H1 => spB (vs ++ []) H1 (fun x H2 => spT RRight ([x] ++ []) H2 Q E0) E0) f fun vs S1 H1 x1 d1 => ?_
    refine ⟨S1, cs, i, x1.sub, by rw [List.append_nil]; exact d1, hi, fun p S2 H2 x2 hS2 hp hH2 => ?_⟩
    refine ⟨S2, p, 0, [], [], fun x => x = .bool true, 60, rfl, x2.sub, ⟨hS2, _, _, 0, hH2, by omega, by omega⟩, by omega, .nil, ⟨rfl, rfl, rfl⟩, fun v S3 H3 x ex x3 _ d3 => ?_⟩
    subst ex
    exact q v S3 H3 (x1.trans (xt_cut x2 hp x3)) d3
  · rw [d'.isBl]
    exact q H'
end
end L3
/-! W12: the program's top; the end. -/
namespace L3
open PySem PySem.Spec PyProof.Rows L2
theorem def_mk {K : PySem.W.Frag} {h : Heap} {mg : Str → Option Value} (X : K.In h) (G : h.Ns mainGlobals mg) {x : Str} {ps : List Str} {st : Stmt} {f : Addr} {od an : Option Addr} {sl : Array (Option Value)} {oc kV dc pm cd ct : Value}
    (a : PySem.W.nsIn K mainGlobals x = some (some (.ref f))) (l : K.lookup f = some ⟨oc, od, .func (PySem.W.fnOf x x (defArgs st) (defBody st) (defScope st) .none kV dc pm an cd ct), sl⟩) (c : PySem.W.codeIn K cd x = true) (k : PySem.W.keepIn K (.ref f) = true)
    (hb : Fun K x x st f (PySem.W.fnOf x x (defArgs st) (defBody st) (defScope st) .none kV dc pm an cd ct) → Binds K (PySem.W.fnOf x x (defArgs st) (defBody st) (defScope st) .none kV dc pm an cd ct) ps []) : Def K mg x ps st :=
  ⟨f, _, fun_mk (st := st) l c k, PySem.W.mg_of X G a, hb (fun_mk (st := st) l c k)⟩
set_option maxHeartbeats 0 in
theorem all_mk {l : PySem.W.OpenLaw} {w : World} {K : PySem.W.Frag} {h : Heap} {mg : Str → Option Value} {fa : Addr} (X : K.In h) (G : h.Ns mainGlobals mg) (hfa : mg "law" = some (.ref fa))
    {f1 : Addr} {od1 an1 : Option Addr} {sl1 : Array (Option Value)} {oc1 kV1 dc1 pm1 cd1 ct1 : Value}
    (a1 : PySem.W.nsIn K mainGlobals "is_number" = some (some (.ref f1))) (l1 : K.lookup f1 = some ⟨oc1, od1, .func (PySem.W.fnOf "is_number" "is_number" (defArgs (top 3)) (defBody (top 3)) (defScope (top 3)) .none kV1 dc1 pm1 an1 cd1 ct1), sl1⟩) (c1 : PySem.W.codeIn K cd1 "is_number" = true) (k1 : PySem.W.keepIn K (.ref f1) = true)
    {f2 : Addr} {od2 an2 : Option Addr} {sl2 : Array (Option Value)} {oc2 kV2 dc2 pm2 cd2 ct2 : Value}
    (a2 : PySem.W.nsIn K mainGlobals "is_tuple_of" = some (some (.ref f2))) (l2 : K.lookup f2 = some ⟨oc2, od2, .func (PySem.W.fnOf "is_tuple_of" "is_tuple_of" (defArgs (top 5)) (defBody (top 5)) (defScope (top 5)) .none kV2 dc2 pm2 an2 cd2 ct2), sl2⟩) (c2 : PySem.W.codeIn K cd2 "is_tuple_of" = true) (k2 : PySem.W.keepIn K (.ref f2) = true)
    {f3 : Addr} {od3 an3 : Option Addr} {sl3 : Array (Option Value)} {oc3 kV3 dc3 pm3 cd3 ct3 : Value}
    (a3 : PySem.W.nsIn K mainGlobals "stepped" = some (some (.ref f3))) (l3 : K.lookup f3 = some ⟨oc3, od3, .func (PySem.W.fnOf "stepped" "stepped" (defArgs (top 14)) (defBody (top 14)) (defScope (top 14)) .none kV3 dc3 pm3 an3 cd3 ct3), sl3⟩) (c3 : PySem.W.codeIn K cd3 "stepped" = true) (k3 : PySem.W.keepIn K (.ref f3) = true)
    {f4 : Addr} {od4 an4 : Option Addr} {sl4 : Array (Option Value)} {oc4 kV4 dc4 pm4 cd4 ct4 : Value}
    (a4 : PySem.W.nsIn K mainGlobals "said_by" = some (some (.ref f4))) (l4 : K.lookup f4 = some ⟨oc4, od4, .func (PySem.W.fnOf "said_by" "said_by" (defArgs (top 16)) (defBody (top 16)) (defScope (top 16)) .none kV4 dc4 pm4 an4 cd4 ct4), sl4⟩) (c4 : PySem.W.codeIn K cd4 "said_by" = true) (k4 : PySem.W.keepIn K (.ref f4) = true)
    {f5 : Addr} {od5 an5 : Option Addr} {sl5 : Array (Option Value)} {oc5 kV5 dc5 pm5 cd5 ct5 : Value}
    (a5 : PySem.W.nsIn K mainGlobals "sure_room" = some (some (.ref f5))) (l5 : K.lookup f5 = some ⟨oc5, od5, .func (PySem.W.fnOf "sure_room" "sure_room" (defArgs (top 13)) (defBody (top 13)) (defScope (top 13)) .none kV5 dc5 pm5 an5 cd5 ct5), sl5⟩) (c5 : PySem.W.codeIn K cd5 "sure_room" = true) (k5 : PySem.W.keepIn K (.ref f5) = true)
    {f6 : Addr} {od6 an6 : Option Addr} {sl6 : Array (Option Value)} {oc6 kV6 dc6 pm6 cd6 ct6 : Value}
    (a6 : PySem.W.nsIn K mainGlobals "wide_walked" = some (some (.ref f6))) (l6 : K.lookup f6 = some ⟨oc6, od6, .func (PySem.W.fnOf "wide_walked" "wide_walked" (defArgs (top 10)) (defBody (top 10)) (defScope (top 10)) .none kV6 dc6 pm6 an6 cd6 ct6), sl6⟩) (c6 : PySem.W.codeIn K cd6 "wide_walked" = true) (k6 : PySem.W.keepIn K (.ref f6) = true)
    {f7 : Addr} {od7 an7 : Option Addr} {sl7 : Array (Option Value)} {oc7 kV7 dc7 pm7 cd7 ct7 : Value}
    (a7 : PySem.W.nsIn K mainGlobals "trail" = some (some (.ref f7))) (l7 : K.lookup f7 = some ⟨oc7, od7, .func (PySem.W.fnOf "trail" "trail" (defArgs (top 15)) (defBody (top 15)) (defScope (top 15)) .none kV7 dc7 pm7 an7 cd7 ct7), sl7⟩) (c7 : PySem.W.codeIn K cd7 "trail" = true) (k7 : PySem.W.keepIn K (.ref f7) = true)
    {f8 : Addr} {od8 an8 : Option Addr} {sl8 : Array (Option Value)} {oc8 kV8 dc8 pm8 cd8 ct8 : Value}
    (a8 : PySem.W.nsIn K mainGlobals "played_on" = some (some (.ref f8))) (l8 : K.lookup f8 = some ⟨oc8, od8, .func (PySem.W.fnOf "played_on" "played_on" (defArgs (top 17)) (defBody (top 17)) (defScope (top 17)) .none kV8 dc8 pm8 an8 cd8 ct8), sl8⟩) (c8 : PySem.W.codeIn K cd8 "played_on" = true) (k8 : PySem.W.keepIn K (.ref f8) = true)
    {f9 : Addr} {od9 an9 : Option Addr} {sl9 : Array (Option Value)} {oc9 kV9 dc9 pm9 cd9 ct9 : Value}
    (a9 : PySem.W.nsIn K mainGlobals "played" = some (some (.ref f9))) (l9 : K.lookup f9 = some ⟨oc9, od9, .func (PySem.W.fnOf "played" "played" (defArgs (top 18)) (defBody (top 18)) (defScope (top 18)) .none kV9 dc9 pm9 an9 cd9 ct9), sl9⟩) (c9 : PySem.W.codeIn K cd9 "played" = true) (k9 : PySem.W.keepIn K (.ref f9) = true)
    {f10 : Addr} {od10 an10 : Option Addr} {sl10 : Array (Option Value)} {oc10 kV10 dc10 pm10 cd10 ct10 : Value}
    (a10 : PySem.W.nsIn K mainGlobals "steps_like" = some (some (.ref f10))) (l10 : K.lookup f10 = some ⟨oc10, od10, .func (PySem.W.fnOf "steps_like" "steps_like" (defArgs (top 19)) (defBody (top 19)) (defScope (top 19)) .none kV10 dc10 pm10 an10 cd10 ct10), sl10⟩) (c10 : PySem.W.codeIn K cd10 "steps_like" = true) (k10 : PySem.W.keepIn K (.ref f10) = true)
    {f11 : Addr} {od11 an11 : Option Addr} {sl11 : Array (Option Value)} {oc11 kV11 dc11 pm11 cd11 ct11 : Value}
    (a11 : PySem.W.nsIn K mainGlobals "said_after" = some (some (.ref f11))) (l11 : K.lookup f11 = some ⟨oc11, od11, .func (PySem.W.fnOf "said_after" "said_after" (defArgs (top 20)) (defBody (top 20)) (defScope (top 20)) .none kV11 dc11 pm11 an11 cd11 ct11), sl11⟩) (c11 : PySem.W.codeIn K cd11 "said_after" = true) (k11 : PySem.W.keepIn K (.ref f11) = true)
    {f12 : Addr} {od12 an12 : Option Addr} {sl12 : Array (Option Value)} {oc12 kV12 dc12 pm12 cd12 ct12 : Value}
    (a12 : PySem.W.nsIn K mainGlobals "changes" = some (some (.ref f12))) (l12 : K.lookup f12 = some ⟨oc12, od12, .func (PySem.W.fnOf "changes" "changes" (defArgs (top 21)) (defBody (top 21)) (defScope (top 21)) .none kV12 dc12 pm12 an12 cd12 ct12), sl12⟩) (c12 : PySem.W.codeIn K cd12 "changes" = true) (k12 : PySem.W.keepIn K (.ref f12) = true)
    {f13 : Addr} {od13 an13 : Option Addr} {sl13 : Array (Option Value)} {oc13 kV13 dc13 pm13 cd13 ct13 : Value}
    (a13 : PySem.W.nsIn K mainGlobals "words" = some (some (.ref f13))) (l13 : K.lookup f13 = some ⟨oc13, od13, .func (PySem.W.fnOf "words" "words" (defArgs (top 22)) (defBody (top 22)) (defScope (top 22)) .none kV13 dc13 pm13 an13 cd13 ct13), sl13⟩) (c13 : PySem.W.codeIn K cd13 "words" = true) (k13 : PySem.W.keepIn K (.ref f13) = true)
    {f14 : Addr} {od14 an14 : Option Addr} {sl14 : Array (Option Value)} {oc14 kV14 dc14 pm14 cd14 ct14 : Value}
    (a14 : PySem.W.nsIn K mainGlobals "_law_play" = some (some (.ref f14))) (l14 : K.lookup f14 = some ⟨oc14, od14, .func (PySem.W.fnOf "_law_play" "_law_play" (defArgs (top 32)) (defBody (top 32)) (defScope (top 32)) .none kV14 dc14 pm14 an14 cd14 ct14), sl14⟩) (c14 : PySem.W.codeIn K cd14 "_law_play" = true) (k14 : PySem.W.keepIn K (.ref f14) = true)
    {f15 : Addr} {od15 an15 : Option Addr} {sl15 : Array (Option Value)} {oc15 kV15 dc15 pm15 cd15 ct15 : Value}
    (a15 : PySem.W.nsIn K mainGlobals "_law_again" = some (some (.ref f15))) (l15 : K.lookup f15 = some ⟨oc15, od15, .func (PySem.W.fnOf "_law_again" "_law_again" (defArgs (top 33)) (defBody (top 33)) (defScope (top 33)) .none kV15 dc15 pm15 an15 cd15 ct15), sl15⟩) (c15 : PySem.W.codeIn K cd15 "_law_again" = true) (k15 : PySem.W.keepIn K (.ref f15) = true)
    {f16 : Addr} {od16 an16 : Option Addr} {sl16 : Array (Option Value)} {oc16 kV16 dc16 pm16 cd16 ct16 : Value}
    (a16 : PySem.W.nsIn K mainGlobals "_law_far" = some (some (.ref f16))) (l16 : K.lookup f16 = some ⟨oc16, od16, .func (PySem.W.fnOf "_law_far" "_law_far" (defArgs (top 35)) (defBody (top 35)) (defScope (top 35)) .none kV16 dc16 pm16 an16 cd16 ct16), sl16⟩) (c16 : PySem.W.codeIn K cd16 "_law_far" = true) (k16 : PySem.W.keepIn K (.ref f16) = true)
    {f17 : Addr} {od17 an17 : Option Addr} {sl17 : Array (Option Value)} {oc17 kV17 dc17 pm17 cd17 ct17 : Value}
    (a17 : PySem.W.nsIn K mainGlobals "_law_words" = some (some (.ref f17))) (l17 : K.lookup f17 = some ⟨oc17, od17, .func (PySem.W.fnOf "_law_words" "_law_words" (defArgs (top 36)) (defBody (top 36)) (defScope (top 36)) .none kV17 dc17 pm17 an17 cd17 ct17), sl17⟩) (c17 : PySem.W.codeIn K cd17 "_law_words" = true) (k17 : PySem.W.keepIn K (.ref f17) = true)
    {f18 : Addr} {od18 an18 : Option Addr} {sl18 : Array (Option Value)} {oc18 kV18 dc18 pm18 cd18 ct18 : Value}
    (a18 : PySem.W.nsIn K mainGlobals "tuple_of" = some (some (.ref f18))) (l18 : K.lookup f18 = some ⟨oc18, od18, .func (PySem.W.fnOf "tuple_of" "tuple_of" (defArgs (top 4)) (defBody (top 4)) (defScope (top 4)) .none kV18 dc18 pm18 an18 cd18 ct18), sl18⟩) (c18 : PySem.W.codeIn K cd18 "tuple_of" = true) (k18 : PySem.W.keepIn K (.ref f18) = true)
    {f19 : Addr} {od19 an19 : Option Addr} {sl19 : Array (Option Value)} {oc19 kV19 dc19 pm19 cd19 ct19 : Value}
    (a19 : PySem.W.nsIn K mainGlobals "is_move" = some (some (.ref f19))) (l19 : K.lookup f19 = some ⟨oc19, od19, .func (PySem.W.fnOf "is_move" "is_move" (defArgs (top 7)) (defBody (top 7)) (defScope (top 7)) .none kV19 dc19 pm19 an19 cd19 ct19), sl19⟩) (c19 : PySem.W.codeIn K cd19 "is_move" = true) (k19 : PySem.W.keepIn K (.ref f19) = true)
    {f20 : Addr} {od20 an20 : Option Addr} {sl20 : Array (Option Value)} {oc20 kV20 dc20 pm20 cd20 ct20 : Value}
    (a20 : PySem.W.nsIn K mainGlobals "is_saying" = some (some (.ref f20))) (l20 : K.lookup f20 = some ⟨oc20, od20, .func (PySem.W.fnOf "is_saying" "is_saying" (defArgs (top 8)) (defBody (top 8)) (defScope (top 8)) .none kV20 dc20 pm20 an20 cd20 ct20), sl20⟩) (c20 : PySem.W.codeIn K cd20 "is_saying" = true) (k20 : PySem.W.keepIn K (.ref f20) = true)
    {f21 : Addr} {od21 an21 : Option Addr} {sl21 : Array (Option Value)} {oc21 kV21 dc21 pm21 cd21 ct21 : Value}
    (a21 : PySem.W.nsIn K mainGlobals "is_walker" = some (some (.ref f21))) (l21 : K.lookup f21 = some ⟨oc21, od21, .func (PySem.W.fnOf "is_walker" "is_walker" (defArgs (top 9)) (defBody (top 9)) (defScope (top 9)) .none kV21 dc21 pm21 an21 cd21 ct21), sl21⟩) (c21 : PySem.W.codeIn K cd21 "is_walker" = true) (k21 : PySem.W.keepIn K (.ref f21) = true)
    {f22 : Addr} {od22 an22 : Option Addr} {sl22 : Array (Option Value)} {oc22 kV22 dc22 pm22 cd22 ct22 : Value}
    (a22 : PySem.W.nsIn K mainGlobals "goes_on" = some (some (.ref f22))) (l22 : K.lookup f22 = some ⟨oc22, od22, .func (PySem.W.fnOf "goes_on" "goes_on" (defArgs (top 11)) (defBody (top 11)) (defScope (top 11)) .none kV22 dc22 pm22 an22 cd22 ct22), sl22⟩) (c22 : PySem.W.codeIn K cd22 "goes_on" = true) (k22 : PySem.W.keepIn K (.ref f22) = true)
    {f23 : Addr} {od23 an23 : Option Addr} {sl23 : Array (Option Value)} {oc23 kV23 dc23 pm23 cd23 ct23 : Value}
    (a23 : PySem.W.nsIn K mainGlobals "mirrored_walker" = some (some (.ref f23))) (l23 : K.lookup f23 = some ⟨oc23, od23, .func (PySem.W.fnOf "mirrored_walker" "mirrored_walker" (defArgs (top 12)) (defBody (top 12)) (defScope (top 12)) .none kV23 dc23 pm23 an23 cd23 ct23), sl23⟩) (c23 : PySem.W.codeIn K cd23 "mirrored_walker" = true) (k23 : PySem.W.keepIn K (.ref f23) = true)
    {f24 : Addr} {od24 an24 : Option Addr} {sl24 : Array (Option Value)} {oc24 kV24 dc24 pm24 cd24 ct24 : Value}
    (a24 : PySem.W.nsIn K mainGlobals "_law_lists" = some (some (.ref f24))) (l24 : K.lookup f24 = some ⟨oc24, od24, .func (PySem.W.fnOf "_law_lists" "_law_lists" (defArgs (top 28)) (defBody (top 28)) (defScope (top 28)) .none kV24 dc24 pm24 an24 cd24 ct24), sl24⟩) (c24 : PySem.W.codeIn K cd24 "_law_lists" = true) (k24 : PySem.W.keepIn K (.ref f24) = true)
    {f25 : Addr} {od25 an25 : Option Addr} {sl25 : Array (Option Value)} {oc25 kV25 dc25 pm25 cd25 ct25 : Value}
    (a25 : PySem.W.nsIn K mainGlobals "_law_same" = some (some (.ref f25))) (l25 : K.lookup f25 = some ⟨oc25, od25, .func (PySem.W.fnOf "_law_same" "_law_same" (defArgs (top 27)) (defBody (top 27)) (defScope (top 27)) .none kV25 dc25 pm25 an25 cd25 ct25), sl25⟩) (c25 : PySem.W.codeIn K cd25 "_law_same" = true) (k25 : PySem.W.keepIn K (.ref f25) = true)
    {f26 : Addr} {od26 an26 : Option Addr} {sl26 : Array (Option Value)} {oc26 kV26 dc26 pm26 cd26 ct26 : Value}
    (a26 : PySem.W.nsIn K mainGlobals "_law_take" = some (some (.ref f26))) (l26 : K.lookup f26 = some ⟨oc26, od26, .func (PySem.W.fnOf "_law_take" "_law_take" (defArgs (top 25)) (defBody (top 25)) (defScope (top 25)) .none kV26 dc26 pm26 an26 cd26 ct26), sl26⟩) (c26 : PySem.W.codeIn K cd26 "_law_take" = true) (k26 : PySem.W.keepIn K (.ref f26) = true)
    {f27 : Addr} {od27 an27 : Option Addr} {sl27 : Array (Option Value)} {oc27 kV27 dc27 pm27 cd27 ct27 : Value}
    (a27 : PySem.W.nsIn K mainGlobals "_law_of" = some (some (.ref f27))) (l27 : K.lookup f27 = some ⟨oc27, od27, .func (PySem.W.fnOf "_law_of" "_law_of" (defArgs (top 29)) (defBody (top 29)) (defScope (top 29)) .none kV27 dc27 pm27 an27 cd27 ct27), sl27⟩) (c27 : PySem.W.codeIn K cd27 "_law_of" = true) (k27 : PySem.W.keepIn K (.ref f27) = true)
    {f28 : Addr} {od28 an28 : Option Addr} {sl28 : Array (Option Value)} {oc28 kV28 dc28 pm28 cd28 ct28 : Value}
    (a28 : PySem.W.nsIn K mainGlobals "_law_ring" = some (some (.ref f28))) (l28 : K.lookup f28 = some ⟨oc28, od28, .func (PySem.W.fnOf "_law_ring" "_law_ring" (defArgs (top 31)) (defBody (top 31)) (defScope (top 31)) .none kV28 dc28 pm28 an28 cd28 ct28), sl28⟩) (c28 : PySem.W.codeIn K cd28 "_law_ring" = true) (k28 : PySem.W.keepIn K (.ref f28) = true)
    {f29 : Addr} {od29 an29 : Option Addr} {sl29 : Array (Option Value)} {oc29 kV29 dc29 pm29 cd29 ct29 : Value}
    (a29 : PySem.W.nsIn K mainGlobals "_law_walker" = some (some (.ref f29))) (l29 : K.lookup f29 = some ⟨oc29, od29, .func (PySem.W.fnOf "_law_walker" "_law_walker" (defArgs (top 30)) (defBody (top 30)) (defScope (top 30)) .none kV29 dc29 pm29 an29 cd29 ct29), sl29⟩) (c29 : PySem.W.codeIn K cd29 "_law_walker" = true) (k29 : PySem.W.keepIn K (.ref f29) = true)
    {f30 : Addr} {od30 an30 : Option Addr} {sl30 : Array (Option Value)} {oc30 kV30 dc30 pm30 cd30 ct30 : Value}
    (a30 : PySem.W.nsIn K mainGlobals "_law_box" = some (some (.ref f30))) (l30 : K.lookup f30 = some ⟨oc30, od30, .func (PySem.W.fnOf "_law_box" "_law_box" (defArgs (top 24)) (defBody (top 24)) (defScope (top 24)) .none kV30 dc30 pm30 an30 cd30 ct30), sl30⟩) (c30 : PySem.W.codeIn K cd30 "_law_box" = true) (k30 : PySem.W.keepIn K (.ref f30) = true)
    {f31 : Addr} {od31 an31 : Option Addr} {sl31 : Array (Option Value)} {oc31 kV31 dc31 pm31 cd31 ct31 : Value}
    (a31 : PySem.W.nsIn K mainGlobals "_law_by_hand_right" = some (some (.ref f31))) (l31 : K.lookup f31 = some ⟨oc31, od31, .func (PySem.W.fnOf "_law_by_hand_right" "_law_by_hand_right" (defArgs (top 34)) (defBody (top 34)) (defScope (top 34)) .none kV31 dc31 pm31 an31 cd31 ct31), sl31⟩) (c31 : PySem.W.codeIn K cd31 "_law_by_hand_right" = true) (k31 : PySem.W.keepIn K (.ref f31) = true)
    {f32 : Addr} {od32 an32 : Option Addr} {sl32 : Array (Option Value)} {oc32 kV32 dc32 pm32 cd32 ct32 : Value}
    (a32 : PySem.W.nsIn K mainGlobals "_law_right" = some (some (.ref f32))) (l32 : K.lookup f32 = some ⟨oc32, od32, .func (PySem.W.fnOf "_law_right" "_law_right" (defArgs (top 37)) (defBody (top 37)) (defScope (top 37)) .none kV32 dc32 pm32 an32 cd32 ct32), sl32⟩) (c32 : PySem.W.codeIn K cd32 "_law_right" = true) (k32 : PySem.W.keepIn K (.ref f32) = true)
    {f33 : Addr} {od33 an33 : Option Addr} {sl33 : Array (Option Value)} {oc33 kV33 dc33 pm33 cd33 ct33 : Value}
    (a33 : PySem.W.nsIn K mainGlobals "_law_cells" = some (some (.ref f33))) (l33 : K.lookup f33 = some ⟨oc33, od33, .func (PySem.W.fnOf "_law_cells" "_law_cells" (defArgs (top 26)) (defBody (top 26)) (defScope (top 26)) .none kV33 dc33 pm33 an33 cd33 ct33), sl33⟩) (c33 : PySem.W.codeIn K cd33 "_law_cells" = true) (k33 : PySem.W.keepIn K (.ref f33) = true)
    {f34 : Addr} {od34 an34 : Option Addr} {sl34 : Array (Option Value)} {oc34 kV34 dc34 pm34 cd34 ct34 : Value}
    (a34 : PySem.W.nsIn K mainGlobals "law" = some (some (.ref f34))) (l34 : K.lookup f34 = some ⟨oc34, od34, .func (PySem.W.fnOf "law" "law" (defArgs (top 38)) (defBody (top 38)) (defScope (top 38)) .none kV34 dc34 pm34 an34 cd34 ct34), sl34⟩) (c34 : PySem.W.codeIn K cd34 "law" = true) (k34 : PySem.W.keepIn K (.ref f34) = true)
    (z1 : PySem.W.nsIn K mainGlobals "isinstance" = some none) (z2 : PySem.W.nsIn K mainGlobals "int" = some none) (z3 : PySem.W.nsIn K mainGlobals "bool" = some none) (z4 : PySem.W.nsIn K mainGlobals "str" = some none) (z5 : PySem.W.nsIn K mainGlobals "list" = some none) (z6 : PySem.W.nsIn K mainGlobals "tuple" = some none) (z7 : PySem.W.nsIn K mainGlobals "len" = some none) (z8 : PySem.W.nsIn K mainGlobals "all" = some none) (z9 : PySem.W.nsIn K mainGlobals "range" = some none) (z10 : PySem.W.nsIn K mainGlobals "enumerate" = some none) (z11 : PySem.W.nsIn K mainGlobals "zip" = some none) (z12 : PySem.W.nsIn K mainGlobals "abs" = some none) :
    ∃ fd : FuncData, (∀ (s : Shared) (v : Value), BindsTo s fd ⟨[v], []⟩ [("_law_script", v)]) ∧ ∀ base : Heap, K.In base → base.Ns mainGlobals mg → FnOk l.prog w K mg base CX0 8 fa fd ["_law_script"] (spLaw K) := by
  have T : Tx mg := ⟨PySem.W.mg_none_of X G z1, PySem.W.mg_none_of X G z2, PySem.W.mg_none_of X G z3, PySem.W.mg_none_of X G z4, PySem.W.mg_none_of X G z5, PySem.W.mg_none_of X G z6, PySem.W.mg_none_of X G z7, PySem.W.mg_none_of X G z8, PySem.W.mg_none_of X G z9, PySem.W.mg_none_of X G z10, PySem.W.mg_none_of X G z11, PySem.W.mg_none_of X G z12⟩
  have F_is_number : Def K mg "is_number" ["thing"] (top 3) := def_mk X G a1 l1 c1 k1 fun F => F.binds (ps := ["thing"]) fun _ _ _ _ _ _ us hl => match us, hl with | [_], _ => rfl
  have F_is_tuple_of : Def K mg "is_tuple_of" ["thing", "many"] (top 5) := def_mk X G a2 l2 c2 k2 fun F => F.binds (ps := ["thing", "many"]) fun _ _ _ _ _ _ us hl => match us, hl with | [_, _], _ => rfl
  have F_stepped : Def K mg "stepped" ["walker", "ring", "place"] (top 14) := def_mk X G a3 l3 c3 k3 fun F => F.binds (ps := ["walker", "ring", "place"]) fun _ _ _ _ _ _ us hl => match us, hl with | [_, _, _], _ => rfl
  have F_said_by : Def K mg "said_by" ["walker", "said", "state"] (top 16) := def_mk X G a4 l4 c4 k4 fun F => F.binds (ps := ["walker", "said", "state"]) fun _ _ _ _ _ _ us hl => match us, hl with | [_, _, _], _ => rfl
  have F_sure_room : Def K mg "sure_room" ["ring", "room"] (top 13) := def_mk X G a5 l5 c5 k5 fun F => F.binds (ps := ["ring", "room"]) fun _ _ _ _ _ _ us hl => match us, hl with | [_, _], _ => rfl
  have F_wide_walked : Def K mg "wide_walked" ["walker"] (top 10) := def_mk X G a6 l6 c6 k6 fun F => F.binds (ps := ["walker"]) fun _ _ _ _ _ _ us hl => match us, hl with | [_], _ => rfl
  have F_trail : Def K mg "trail" ["walker", "ring", "room"] (top 15) := def_mk X G a7 l7 c7 k7 fun F => F.binds (ps := ["walker", "ring", "room"]) fun _ _ _ _ _ _ us hl => match us, hl with | [_, _, _], _ => rfl
  have F_played_on : Def K mg "played_on" ["walker", "ring", "room", "steps"] (top 17) := def_mk X G a8 l8 c8 k8 fun F => F.binds (ps := ["walker", "ring", "room", "steps"]) fun _ _ _ _ _ _ us hl => match us, hl with | [_, _, _, _], _ => rfl
  have F_played : Def K mg "played" ["walker", "ring", "room", "steps"] (top 18) := def_mk X G a9 l9 c9 k9 fun F => F.binds (ps := ["walker", "ring", "room", "steps"]) fun _ _ _ _ _ _ us hl => match us, hl with | [_, _, _, _], _ => rfl
  have F_steps_like : Def K mg "steps_like" ["walker", "ring", "room", "steps"] (top 19) := def_mk X G a10 l10 c10 k10 fun F => F.binds (ps := ["walker", "ring", "room", "steps"]) fun _ _ _ _ _ _ us hl => match us, hl with | [_, _, _, _], _ => rfl
  have F_said_after : Def K mg "said_after" ["walker", "ring", "room", "steps"] (top 20) := def_mk X G a11 l11 c11 k11 fun F => F.binds (ps := ["walker", "ring", "room", "steps"]) fun _ _ _ _ _ _ us hl => match us, hl with | [_, _, _, _], _ => rfl
  have F_changes : Def K mg "changes" ["said"] (top 21) := def_mk X G a12 l12 c12 k12 fun F => F.binds (ps := ["said"]) fun _ _ _ _ _ _ us hl => match us, hl with | [_], _ => rfl
  have F_words : Def K mg "words" ["walker", "ring", "room", "steps"] (top 22) := def_mk X G a13 l13 c13 k13 fun F => F.binds (ps := ["walker", "ring", "room", "steps"]) fun _ _ _ _ _ _ us hl => match us, hl with | [_, _, _, _], _ => rfl
  have F__law_play : Def K mg "_law_play" ["_law_walker_here", "_law_ring_here", "_law_room", "_law_many"] (top 32) := def_mk X G a14 l14 c14 k14 fun F => F.binds (ps := ["_law_walker_here", "_law_ring_here", "_law_room", "_law_many"]) fun _ _ _ _ _ _ us hl => match us, hl with | [_, _, _, _], _ => rfl
  have F__law_again : Def K mg "_law_again" ["_law_rows", "_law_room"] (top 33) := def_mk X G a15 l15 c15 k15 fun F => F.binds (ps := ["_law_rows", "_law_room"]) fun _ _ _ _ _ _ us hl => match us, hl with | [_, _], _ => rfl
  have F__law_far : Def K mg "_law_far" ["_law_rows", "_law_room", "_law_many"] (top 35) := def_mk X G a16 l16 c16 k16 fun F => F.binds (ps := ["_law_rows", "_law_room", "_law_many"]) fun _ _ _ _ _ _ us hl => match us, hl with | [_, _, _], _ => rfl
  have F__law_words : Def K mg "_law_words" ["_law_rows"] (top 36) := def_mk X G a17 l17 c17 k17 fun F => F.binds (ps := ["_law_rows"]) fun _ _ _ _ _ _ us hl => match us, hl with | [_], _ => rfl
  have F_tuple_of : Def K mg "tuple_of" ["thing"] (top 4) := def_mk X G a18 l18 c18 k18 fun F => F.binds (ps := ["thing"]) fun _ _ _ _ _ _ us hl => match us, hl with | [_], _ => rfl
  have F_is_move : Def K mg "is_move" ["many", "thing"] (top 7) := def_mk X G a19 l19 c19 k19 fun F => F.binds (ps := ["many", "thing"]) fun _ _ _ _ _ _ us hl => match us, hl with | [_, _], _ => rfl
  have F_is_saying : Def K mg "is_saying" ["thing"] (top 8) := def_mk X G a20 l20 c20 k20 fun F => F.binds (ps := ["thing"]) fun _ _ _ _ _ _ us hl => match us, hl with | [_], _ => rfl
  have F_is_walker : Def K mg "is_walker" ["thing"] (top 9) := def_mk X G a21 l21 c21 k21 fun F => F.binds (ps := ["thing"]) fun _ _ _ _ _ _ us hl => match us, hl with | [_], _ => rfl
  have F_goes_on : Def K mg "goes_on" ["walker"] (top 11) := def_mk X G a22 l22 c22 k22 fun F => F.binds (ps := ["walker"]) fun _ _ _ _ _ _ us hl => match us, hl with | [_], _ => rfl
  have F_mirrored_walker : Def K mg "mirrored_walker" ["walker"] (top 12) := def_mk X G a23 l23 c23 k23 fun F => F.binds (ps := ["walker"]) fun _ _ _ _ _ _ us hl => match us, hl with | [_], _ => rfl
  have F__law_lists : Def K mg "_law_lists" ["_law_matter"] (top 28) := def_mk X G a24 l24 c24 k24 fun F => F.binds (ps := ["_law_matter"]) fun _ _ _ _ _ _ us hl => match us, hl with | [_], _ => rfl
  have F__law_same : Def K mg "_law_same" ["_law_got", "_law_goal"] (top 27) := def_mk X G a25 l25 c25 k25 fun F => F.binds (ps := ["_law_got", "_law_goal"]) fun _ _ _ _ _ _ us hl => match us, hl with | [_, _], _ => rfl
  have F__law_take : Def K mg "_law_take" ["_law_tin", "_law_below"] (top 25) := def_mk X G a26 l26 c26 k26 fun F => F.binds (ps := ["_law_tin", "_law_below"]) fun _ _ _ _ _ _ us hl => match us, hl with | [_, _], _ => rfl
  have F__law_of : Def K mg "_law_of" ["_law_tin", "_law_goods"] (top 29) := def_mk X G a27 l27 c27 k27 fun F => F.binds (ps := ["_law_tin", "_law_goods"]) fun _ _ _ _ _ _ us hl => match us, hl with | [_, _], _ => rfl
  have F__law_ring : Def K mg "_law_ring" ["_law_tin", "_law_wide"] (top 31) := def_mk X G a28 l28 c28 k28 fun F => F.binds (ps := ["_law_tin", "_law_wide"]) fun _ _ _ _ _ _ us hl => match us, hl with | [_, _], _ => rfl
  have F__law_walker : Def K mg "_law_walker" ["_law_tin"] (top 30) := def_mk X G a29 l29 c29 k29 fun F => F.binds (ps := ["_law_tin"]) fun _ _ _ _ _ _ us hl => match us, hl with | [_], _ => rfl
  have F__law_box : Def K mg "_law_box" ["_law_script", "_law_k"] (top 24) := def_mk X G a30 l30 c30 k30 fun F => F.binds (ps := ["_law_script", "_law_k"]) fun _ _ _ _ _ _ us hl => match us, hl with | [_, _], _ => rfl
  have F__law_by_hand_right : Def K mg "_law_by_hand_right" [] (top 34) := def_mk X G a31 l31 c31 k31 fun F => F.binds (ps := []) fun _ _ _ _ _ _ us hl => match us, hl with | [], _ => rfl
  have F__law_right : Def K mg "_law_right" ["_law_tin"] (top 37) := def_mk X G a32 l32 c32 k32 fun F => F.binds (ps := ["_law_tin"]) fun _ _ _ _ _ _ us hl => match us, hl with | [_], _ => rfl
  have F__law_cells : Def K mg "_law_cells" ["_law_script", "_law_most"] (top 26) := def_mk X G a33 l33 c33 k33 fun F => F.binds (ps := ["_law_script", "_law_most"]) fun _ _ _ _ _ _ us hl => match us, hl with | [_, _], _ => rfl
  have e := hfa.symm.trans (PySem.W.mg_of X G a34)
  cases e
  refine ⟨PySem.W.fnOf "law" "law" (defArgs (top 38)) (defBody (top 38)) (defScope (top 38)) .none kV34 dc34 pm34 an34 cd34 ct34, fun s v => .of_eq rfl, fun base _ _ => ?_⟩
  have C_is_number := ok_is_number (P := l.prog) (w := w) (base := base) T F_is_number 
  have C_is_tuple_of := ok_is_tuple_of (P := l.prog) (w := w) (base := base) T F_is_tuple_of 
  have C_stepped := ok_stepped (P := l.prog) (w := w) (base := base) T F_stepped 
  have C_said_by := ok_said_by (P := l.prog) (w := w) (base := base) T F_said_by 
  have C_sure_room := ok_sure_room (P := l.prog) (w := w) (base := base) T F_sure_room 
  have C_wide_walked := ok_wide_walked (P := l.prog) (w := w) (base := base) T F_wide_walked 
  have C_trail := ok_trail (P := l.prog) (w := w) (base := base) T F_trail C_stepped
  have C_played_on := ok_played_on (P := l.prog) (w := w) (base := base) T F_played_on C_stepped C_said_by
  have C_played := ok_played (P := l.prog) (w := w) (base := base) T F_played C_sure_room C_played_on
  have C_steps_like := ok_steps_like (P := l.prog) (w := w) (base := base) T F_steps_like C_trail
  have C_said_after := ok_said_after (P := l.prog) (w := w) (base := base) T F_said_after C_sure_room C_played_on C_steps_like
  have C_changes := ok_changes (P := l.prog) (w := w) (base := base) T F_changes 
  have C_words := ok_words (P := l.prog) (w := w) (base := base) T F_words C_played C_changes
  have C__law_play := ok__law_play (P := l.prog) (w := w) (base := base) T F__law_play 
  have C__law_again := ok__law_again (P := l.prog) (w := w) (base := base) T F__law_again 
  have C__law_far := ok__law_far (P := l.prog) (w := w) (base := base) T F__law_far C__law_again
  have C__law_words := ok__law_words (P := l.prog) (w := w) (base := base) T F__law_words 
  have C_tuple_of := ok_tuple_of (P := l.prog) (w := w) (base := base) T F_tuple_of 5
  have C_is_move := ok_is_move (P := l.prog) (w := w) (base := base) T F_is_move C_is_tuple_of C_is_number
  have C_is_saying := ok_is_saying (P := l.prog) (w := w) (base := base) T F_is_saying C_is_number
  have C_is_walker := ok_is_walker (P := l.prog) (w := w) (base := base) T F_is_walker C_is_tuple_of C_is_move C_is_saying
  have C_goes_on := ok_goes_on (P := l.prog) (w := w) (base := base) T F_goes_on 
  have C_mirrored_walker := ok_mirrored_walker (P := l.prog) (w := w) (base := base) T F_mirrored_walker C_tuple_of
  have C__law_lists := ok__law_lists (P := l.prog) (w := w) (base := base) T F__law_lists 5
  have C__law_same := ok__law_same (P := l.prog) (w := w) (base := base) T F__law_same 6
  have C__law_take := ok__law_take (P := l.prog) (w := w) (base := base) T F__law_take 
  have C__law_of := ok__law_of (P := l.prog) (w := w) (base := base) T F__law_of C__law_take
  have C__law_ring := ok__law_ring (P := l.prog) (w := w) (base := base) T F__law_ring C__law_take
  have C__law_walker := ok__law_walker (P := l.prog) (w := w) (base := base) T F__law_walker C__law_take C__law_of
  have C__law_box := ok__law_box (P := l.prog) (w := w) (base := base) T F__law_box 
  have C__law_by_hand_right := ok__law_by_hand_right (P := l.prog) (w := w) (base := base) T F__law_by_hand_right C_played C_words C_said_after (ok__law_same (P := l.prog) (w := w) (base := base) T F__law_same 5)
  have C__law_right := ok__law_right (P := l.prog) (w := w) (base := base) T F__law_right C__law_take C__law_of C__law_walker C__law_ring C__law_play C__law_lists C__law_same C__law_far C__law_words C_played C_words C_said_after C_is_walker C_wide_walked C_goes_on C_mirrored_walker
  have C__law_cells := ok__law_cells (P := l.prog) (w := w) (base := base) T F__law_cells 
  have C_law := ok_law (P := l.prog) (w := w) (base := base) T (fun_mk (st := (top 38)) l34 c34 k34) C__law_by_hand_right C__law_cells C__law_box C__law_right
  exact C_law
theorem walk {l : PySem.W.OpenLaw} {q : Program} {loose : List Str} {XP : (Str → Option Value) → Heap → Prop} {YP : World → Heap → Prop} {d : DefRec} {K : Params → PySem.W.Frag} (hn : l.most = some 63) (hdf : d.params.defaults = [])
    (hY : ∀ (w : World) (h : Heap), YP w h → (K w.params).In h)
    (F : ∀ (w : World) (mg : Str → Option Value) (fa : Addr) (h : Heap), (K w.params).In h → h.Ns mainGlobals mg → mg d.name = some (.ref fa) →
      ∃ fd : FuncData, (∀ (s : Shared) (u : Value), BindsTo s fd ⟨[u], []⟩ [("_law_script", u)]) ∧ ∀ base : Heap, (K w.params).In base → base.Ns mainGlobals mg → FnOk l.prog w (K w.params) mg base CX0 8 fa fd ["_law_script"] (spLaw (K w.params))) :
    PySem.W.WalkO q loose XP YP l.row.toRowW d [] (fun f vs => PySem.call f vs) :=
  L2.walk_of (n := 63) (k := 8) (x := "_law_script") (CX := fun _ => CX0) (sp := fun w => spLaw (K w.params)) hn (by decide) hdf ⟨rfl, by decide, by decide⟩ hY F (fun _ _ a ns hl _ hS => ⟨a, ns, rfl, hS, hl, fun _ => rfl⟩) fun _ _ _ _ _ z => z
end L3
open PySem PySem.W PyProof.Rows
set_option maxRecDepth 100000 in
set_option maxHeartbeats 0 in
theorem PySem.Challenge.cw_roundtold_k14_whole_walks_step_by_step_holds : PySem.Challenge.rw_roundtold_k14_whole_walks_step_by_step.Holds := by
  w_on; o_law; k_head; (case hw => w_witness2)
  k_fill
  refine L3.walk (l := PySem.Challenge.rw_roundtold_k14_whole_walks_step_by_step) rfl rfl (fun w h Y => PySem.W.kIn_of Y) ?F
  case F =>
    intro w mg fa h KX G hmg
    refine' L3.all_mk KX G hmg ?a1 ?l1 ?c1 ?k1 ?a2 ?l2 ?c2 ?k2 ?a3 ?l3 ?c3 ?k3 ?a4 ?l4 ?c4 ?k4 ?a5 ?l5 ?c5 ?k5 ?a6 ?l6 ?c6 ?k6 ?a7 ?l7 ?c7 ?k7 ?a8 ?l8 ?c8 ?k8 ?a9 ?l9 ?c9 ?k9 ?a10 ?l10 ?c10 ?k10 ?a11 ?l11 ?c11 ?k11 ?a12 ?l12 ?c12 ?k12 ?a13 ?l13 ?c13 ?k13 ?a14 ?l14 ?c14 ?k14 ?a15 ?l15 ?c15 ?k15 ?a16 ?l16 ?c16 ?k16 ?a17 ?l17 ?c17 ?k17 ?a18 ?l18 ?c18 ?k18 ?a19 ?l19 ?c19 ?k19 ?a20 ?l20 ?c20 ?k20 ?a21 ?l21 ?c21 ?k21 ?a22 ?l22 ?c22 ?k22 ?a23 ?l23 ?c23 ?k23 ?a24 ?l24 ?c24 ?k24 ?a25 ?l25 ?c25 ?k25 ?a26 ?l26 ?c26 ?k26 ?a27 ?l27 ?c27 ?k27 ?a28 ?l28 ?c28 ?k28 ?a29 ?l29 ?c29 ?k29 ?a30 ?l30 ?c30 ?k30 ?a31 ?l31 ?c31 ?k31 ?a32 ?l32 ?c32 ?k32 ?a33 ?l33 ?c33 ?k33 ?a34 ?l34 ?c34 ?k34 ?z1 ?z2 ?z3 ?z4 ?z5 ?z6 ?z7 ?z8 ?z9 ?z10 ?z11 ?z12
    (case a1 => k_is); (case l1 => k_is); (case c1 => k_is); (case k1 => k_is)
    (case a2 => k_is); (case l2 => k_is); (case c2 => k_is); (case k2 => k_is)
    (case a3 => k_is); (case l3 => k_is); (case c3 => k_is); (case k3 => k_is)
    (case a4 => k_is); (case l4 => k_is); (case c4 => k_is); (case k4 => k_is)
    (case a5 => k_is); (case l5 => k_is); (case c5 => k_is); (case k5 => k_is)
    (case a6 => k_is); (case l6 => k_is); (case c6 => k_is); (case k6 => k_is)
    (case a7 => k_is); (case l7 => k_is); (case c7 => k_is); (case k7 => k_is)
    (case a8 => k_is); (case l8 => k_is); (case c8 => k_is); (case k8 => k_is)
    (case a9 => k_is); (case l9 => k_is); (case c9 => k_is); (case k9 => k_is)
    (case a10 => k_is); (case l10 => k_is); (case c10 => k_is); (case k10 => k_is)
    (case a11 => k_is); (case l11 => k_is); (case c11 => k_is); (case k11 => k_is)
    (case a12 => k_is); (case l12 => k_is); (case c12 => k_is); (case k12 => k_is)
    (case a13 => k_is); (case l13 => k_is); (case c13 => k_is); (case k13 => k_is)
    (case a14 => k_is); (case l14 => k_is); (case c14 => k_is); (case k14 => k_is)
    (case a15 => k_is); (case l15 => k_is); (case c15 => k_is); (case k15 => k_is)
    (case a16 => k_is); (case l16 => k_is); (case c16 => k_is); (case k16 => k_is)
    (case a17 => k_is); (case l17 => k_is); (case c17 => k_is); (case k17 => k_is)
    (case a18 => k_is); (case l18 => k_is); (case c18 => k_is); (case k18 => k_is)
    (case a19 => k_is); (case l19 => k_is); (case c19 => k_is); (case k19 => k_is)
    (case a20 => k_is); (case l20 => k_is); (case c20 => k_is); (case k20 => k_is)
    (case a21 => k_is); (case l21 => k_is); (case c21 => k_is); (case k21 => k_is)
    (case a22 => k_is); (case l22 => k_is); (case c22 => k_is); (case k22 => k_is)
    (case a23 => k_is); (case l23 => k_is); (case c23 => k_is); (case k23 => k_is)
    (case a24 => k_is); (case l24 => k_is); (case c24 => k_is); (case k24 => k_is)
    (case a25 => k_is); (case l25 => k_is); (case c25 => k_is); (case k25 => k_is)
    (case a26 => k_is); (case l26 => k_is); (case c26 => k_is); (case k26 => k_is)
    (case a27 => k_is); (case l27 => k_is); (case c27 => k_is); (case k27 => k_is)
    (case a28 => k_is); (case l28 => k_is); (case c28 => k_is); (case k28 => k_is)
    (case a29 => k_is); (case l29 => k_is); (case c29 => k_is); (case k29 => k_is)
    (case a30 => k_is); (case l30 => k_is); (case c30 => k_is); (case k30 => k_is)
    (case a31 => k_is); (case l31 => k_is); (case c31 => k_is); (case k31 => k_is)
    (case a32 => k_is); (case l32 => k_is); (case c32 => k_is); (case k32 => k_is)
    (case a33 => k_is); (case l33 => k_is); (case c33 => k_is); (case k33 => k_is)
    (case a34 => k_is); (case l34 => k_is); (case c34 => k_is); (case k34 => k_is)
    (case z1 => k_is)
    (case z2 => k_is)
    (case z3 => k_is)
    (case z4 => k_is)
    (case z5 => k_is)
    (case z6 => k_is)
    (case z7 => k_is)
    (case z8 => k_is)
    (case z9 => k_is)
    (case z10 => k_is)
    (case z11 => k_is)
    (case z12 => k_is)
