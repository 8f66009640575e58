import PyProof.Rows.All
import Wide.All
import OpenK.AllK
import Wide.FinOn
import HandS.ForMost
import HandS.Star
import HandS.Flow
import HandS.Wide
import HandS.TupAny
import HandS.TupLe
import HandS.Zip
import HandS.Conv
import HandS.Deep
import HandS.IsInst
import HandS.SortOrd
import HandS.SortInts
import HandS.SetFor
import HandS.Defaults
import KE.GoesMore
import HandS.NoneIn
import HandS.WideBits
import HandS.Strs
import HandS.Dict
import HandS.Small
import HandS.Style
import HandS.SetBool
import HandS.SortKw
import KE.DatumOrd
import PySem.Challenge.RW_soonestsaid_k01_typical_rows_one_for_eac
set_option Elab.async false
set_option linter.all false
set_option maxRecDepth 100000
set_option maxHeartbeats 4000000
namespace DL
open PySem PySem.Spec PyProof.Rows L2

/-! ## plain data -/
inductive D where
  | non | bl (b : Bool) | int (i : Int) | str (x : Str) | tup (ds : List D) | lst (ds : List D) | obj (c : Nat) (ds : List D) | src | ty (n : String) | cls (c : Nat)

/-- the classes of the text: address and field names -/
abbrev Cls := Nat → Addr × List Str
abbrev Mu := Addr → Prop

def LsM (K : PySem.W.Frag) (M : Mu) (H : Hp) (a : Addr) (xs : List V) : Prop := ¬ M a ∧ H a = some (.lst xs)
def TsM (K : PySem.W.Frag) (M : Mu) (H : Hp) (a : Addr) (xs : List V) : Prop :=
  (¬ M a ∧ H a = some (.tup xs)) ∨ ∃ (o : Obj) (its : Array Value) (n : Nat), K.lookup a = some o ∧ o.cls = .type "tuple" ∧ o.data = .seq its n ∧ its.size ≤ sizeLine ∧ Vals xs its.toList
theorem LsM.sq {K M H a xs} (h : LsM K M H a xs) : SqL K H a xs := .inl (.inl h.2)
theorem TsM.sq {K M H a xs} (h : TsM K M H a xs) : SqT K H a xs := h.elim (fun h => .inl (.inl h.2)) .inr

mutual
inductive Rp (K : PySem.W.Frag) (G : Cls) (S : Option Addr) (M : Mu) (H : Hp) : V → D → Prop
  | non : Rp K G S M H .non .non
  | bl (b : Bool) : Rp K G S M H (.bl b) (.bl b)
  | int (i : Int) : Rp K G S M H (.int i) (.int i)
  | str (x : Str) : Rp K G S M H (.str x) (.str x)
  | lst {a : Addr} {xs : List V} {ds : List D} : LsM K M H a xs → RpA K G S M H xs ds → Rp K G S M H (.ref a) (.lst ds)
  | tup {a : Addr} {xs : List V} {ds : List D} : TsM K M H a xs → RpA K G S M H xs ds → Rp K G S M H (.ref a) (.tup ds)
  | obj {c : Nat} {a dx : Addr} {xs : List V} {ds : List D} : ¬ M a → H a = some (.ins (G c).1 dx ((G c).2.zip xs)) → RpA K G S M H xs ds → Rp K G S M H (.ref a) (.obj c ds)
  | src {a : Addr} : S = some a → Rp K G S M H (.ref a) .src
  | ty (n : String) : Rp K G S M H (.ty n) (.ty n)
  | cls (c : Nat) : Rp K G S M H (.ref (G c).1) (.cls c)
inductive RpA (K : PySem.W.Frag) (G : Cls) (S : Option Addr) (M : Mu) (H : Hp) : List V → List D → Prop
  | nil : RpA K G S M H [] []
  | cons {v : V} {vs : List V} {d : D} {ds : List D} : Rp K G S M H v d → RpA K G S M H vs ds → RpA K G S M H (v :: vs) (d :: ds)
end

/-- what was fixed stays, and stays fixed -/
def Pre (M : Mu) (H : Hp) (M' : Mu) (H' : Hp) : Prop := ∀ b o, H b = some o → ¬ M b → H' b = some o ∧ ¬ M' b
theorem Pre.refl (M : Mu) (H : Hp) : Pre M H M H := fun _ _ h n => ⟨h, n⟩
theorem Pre.trans {M H M1 H1 M2 H2} (a : Pre M H M1 H1) (b : Pre M1 H1 M2 H2) : Pre M H M2 H2 := fun c o h n => b c o (a c o h n).1 (a c o h n).2

section
variable {K : PySem.W.Frag} {G : Cls} {S : Option Addr} {M M' : Mu} {H H' : Hp}
theorem LsM.pre {a xs} (p : Pre M H M' H') (h : LsM K M H a xs) : LsM K M' H' a xs := ⟨(p _ _ h.2 h.1).2, (p _ _ h.2 h.1).1⟩
theorem TsM.pre {a xs} (p : Pre M H M' H') (h : TsM K M H a xs) : TsM K M' H' a xs := by
  rcases h with ⟨n, h⟩ | h
  · exact .inl ⟨(p _ _ h n).2, (p _ _ h n).1⟩
  · exact .inr h
mutual
theorem Rp.pre (p : Pre M H M' H') : ∀ {v d}, Rp K G S M H v d → Rp K G S M' H' v d
  | _, _, .non => .non
  | _, _, .bl b => .bl b
  | _, _, .int i => .int i
  | _, _, .str x => .str x
  | _, _, .lst h a => .lst (h.pre p) (RpA.pre p a)
  | _, _, .tup h a => .tup (h.pre p) (RpA.pre p a)
  | _, _, .obj n h a => .obj (p _ _ h n).2 (p _ _ h n).1 (RpA.pre p a)
  | _, _, .src h => .src h
  | _, _, .ty n => .ty n
  | _, _, .cls c => .cls c
theorem RpA.pre (p : Pre M H M' H') : ∀ {vs ds}, RpA K G S M H vs ds → RpA K G S M' H' vs ds
  | _, _, .nil => .nil
  | _, _, .cons h a => .cons (Rp.pre p h) (RpA.pre p a)
end
theorem RpA.length : ∀ {vs ds}, RpA K G S M H vs ds → vs.length = ds.length
  | _, _, .nil => rfl
  | _, _, .cons _ a => by rw [List.length_cons, List.length_cons, RpA.length a]
theorem RpA.get : ∀ {vs ds} {i : Nat} {d : D}, RpA K G S M H vs ds → ds[i]? = some d → ∃ v, vs[i]? = some v ∧ Rp K G S M H v d
  | _, _, _, _, .nil, e => by simp at e
  | _, _, 0, _, .cons h _, e => by simp at e; subst e; exact ⟨_, rfl, h⟩
  | _, _, i + 1, d, .cons _ a, e => by
    obtain ⟨v, h1, h2⟩ := RpA.get (i := i) (d := d) a (by simpa using e)
    exact ⟨v, by simpa using h1, h2⟩
theorem RpA.getV : ∀ {vs ds} {i : Nat} {v : V}, RpA K G S M H vs ds → vs[i]? = some v → ∃ d, ds[i]? = some d ∧ Rp K G S M H v d
  | _, _, _, _, .nil, e => by simp at e
  | _, _, 0, _, .cons h _, e => by simp at e; subst e; exact ⟨_, rfl, h⟩
  | _, _, i + 1, v, .cons _ a, e => by
    obtain ⟨d, h1, h2⟩ := RpA.getV (i := i) (v := v) a (by simpa using e)
    exact ⟨d, by simpa using h1, h2⟩
theorem RpA.append : ∀ {vs ds ws es}, RpA K G S M H vs ds → RpA K G S M H ws es → RpA K G S M H (vs ++ ws) (ds ++ es)
  | _, _, _, _, .nil, s => s
  | _, _, _, _, .cons h a, s => .cons h (RpA.append a s)
theorem RpA.take : ∀ {vs ds} (n : Nat), RpA K G S M H vs ds → RpA K G S M H (vs.take n) (ds.take n)
  | _, _, 0, _ => .nil
  | _, _, _ + 1, .nil => .nil
  | _, _, n + 1, .cons h a => .cons h (RpA.take n a)
theorem RpA.drop : ∀ {vs ds} (n : Nat), RpA K G S M H vs ds → RpA K G S M H (vs.drop n) (ds.drop n)
  | _, _, 0, h => h
  | _, _, _ + 1, .nil => .nil
  | _, _, n + 1, .cons _ a => RpA.drop n a
theorem RpA.one {v d} (h : Rp K G S M H v d) : RpA K G S M H [v] [d] := .cons h .nil
theorem RpA.set {v d} (h : Rp K G S M H v d) : ∀ {vs ds} (i : Nat), RpA K G S M H vs ds → RpA K G S M H (vs.set i v) (ds.set i d)
  | _, _, _, .nil => .nil
  | _, _, 0, .cons _ a => .cons h a
  | _, _, i + 1, .cons q a => .cons q (RpA.set h i a)
theorem RpA.eraseIdx : ∀ {vs ds} (i : Nat), RpA K G S M H vs ds → RpA K G S M H (vs.eraseIdx i) (ds.eraseIdx i)
  | _, _, _, .nil => .nil
  | _, _, 0, .cons _ a => a
  | _, _, i + 1, .cons q a => .cons q (RpA.eraseIdx i a)
theorem RpA.inv2 {vs : List V} {a b : D} (h : RpA K G S M H vs [a, b]) : ∃ u v, vs = [u, v] ∧ Rp K G S M H u a ∧ Rp K G S M H v b := by
  cases h with
  | cons h1 h2 => cases h2 with
    | cons h3 h4 => cases h4; exact ⟨_, _, rfl, h1, h3⟩
theorem RpA.inv1 {vs : List V} {a : D} (h : RpA K G S M H vs [a]) : ∃ u, vs = [u] ∧ Rp K G S M H u a := by
  cases h with
  | cons h1 h2 => cases h2; exact ⟨_, rfl, h1⟩
end

/-! ## the drawing source and the state -/
/-- the source at a: cells, place, great cell, turned number -/
def SrcOk (M : Mu) (H : Hp) (a : Addr) : Prop :=
  ∃ (c : Addr) (ns : List Int) (pl gr tu : Int), H a = some (.lst [.ref c, .int pl, .int gr, .int tu]) ∧ ¬ M c ∧ H c = some (.lst (ns.map V.int)) ∧ 0 ≤ pl

/-- what kind of thing is owned -/
inductive Knd where
  | L
  | K (ks : List Key)
def Knd.ho : Knd → List V → HO
  | .L, vs => .lst vs
  | .K ks, vs => .dK (ks.zip vs)
inductive EV where
  | dat (d : D)
  | ow (k : Knd) (ds : List D)
abbrev EV.own (ds : List D) : EV := .ow .L ds
abbrev En := List (Option EV)

structure Rep (K : PySem.W.Frag) (G : Cls) (S : Option Addr) (H0 : Hp) (M0 : Mu) (ρ : En) (σ : L2.St) (H : Hp) (M : Mu) : Prop where
  len : σ.length = ρ.length
  dat : ∀ (i : Nat) (d : D), ρ[i]? = some (some (.dat d)) → ∃ v, σ[i]? = some (some v) ∧ Rp K G S M H v d
  ow : ∀ (i : Nat) (k : Knd) (ds : List D), ρ[i]? = some (some (.ow k ds)) → ∃ p vs, σ[i]? = some (some (.ref p)) ∧ H p = some (k.ho vs) ∧ RpA K G S M H vs ds ∧ M p ∧ S ≠ some p ∧ H0 p = none
  sep : ∀ (i j : Nat) (k l : Knd) (ds es : List D) (p : Addr), ρ[i]? = some (some (.ow k ds)) → ρ[j]? = some (some (.ow l es)) → i ≠ j → σ[i]? = some (some (.ref p)) → σ[j]? ≠ some (some (.ref p))
  src : ∀ a, S = some a → SrcOk M H a ∧ M a
  mt : ∀ b, M b → H b ≠ none
  mt0 : ∀ b, M0 b → H0 b ≠ none
  m0 : ∀ b, M0 b → M b
  fr : ∀ b o, H0 b = some o → S ≠ some b → H b = some o

section
variable {K : PySem.W.Frag} {G : Cls} {S : Option Addr} {H0 : Hp} {M0 : Mu} {ρ : En} {σ : L2.St} {H H' : Hp} {M M' : Mu}
theorem Rep.own (R : Rep K G S H0 M0 ρ σ H M) (i : Nat) (ds : List D) (e : ρ[i]? = some (some (.own ds))) : ∃ p vs, σ[i]? = some (some (.ref p)) ∧ H p = some (.lst vs) ∧ RpA K G S M H vs ds ∧ M p ∧ S ≠ some p ∧ H0 p = none := R.ow i .L ds e
theorem SrcOk.pre {a} (p : Pre M H M' H') (e : H' a = H a) (h : SrcOk M H a) : SrcOk M' H' a := by
  obtain ⟨c, ns, pl, gr, tu, h1, h2, h3, h4⟩ := h
  exact ⟨c, ns, pl, gr, tu, e.trans h1, (p _ _ h3 h2).2, (p _ _ h3 h2).1, h4⟩
theorem SrcOk.mono {a} (m : ∀ b, M' b → M b) (h : SrcOk M H a) : SrcOk M' H a := by
  obtain ⟨c, ns, pl, gr, tu, h1, h2, h3, h4⟩ := h
  exact ⟨c, ns, pl, gr, tu, h1, fun z => h2 (m _ z), h3, h4⟩
/-- nothing tracked has changed -/
theorem pre_of_same (s : Same H H') : Pre M H M H' := fun b o h n => ⟨s b o h, n⟩
theorem Rep.same (R : Rep K G S H0 M0 ρ σ H M) (s : Same H H') : Rep K G S H0 M0 ρ σ H' M where
  len := R.len
  dat := fun i d e => let ⟨v, h1, h2⟩ := R.dat i d e; ⟨v, h1, h2.pre (pre_of_same s)⟩
  ow := fun i k ds e => let ⟨p, vs, h1, h2, h3, h4⟩ := R.ow i k ds e; ⟨p, vs, h1, s _ _ h2, h3.pre (pre_of_same s), h4⟩
  sep := R.sep
  src := fun a e => ⟨by
    obtain ⟨⟨c, ns, pl, gr, tu, h1, h2, h3, h4⟩, m⟩ := R.src a e
    exact ⟨c, ns, pl, gr, tu, s _ _ h1, h2, s _ _ h3, h4⟩, (R.src a e).2⟩
  mt := fun b m z => by
    cases q : H b with
    | none => exact R.mt b m q
    | some o => rw [s b o q] at z; cases z
  mt0 := R.mt0
  m0 := R.m0
  fr := fun b o h n => s b o (R.fr b o h n)
theorem Rep.fresh (R : Rep K G S H0 M0 ρ σ H M) {p : Addr} (h : H p = none) : ¬ M p := fun m => R.mt p m h
/-- a slot gets data -/
theorem Rep.set {i : Nat} {v : V} {d : D} (R : Rep K G S H0 M0 ρ σ H M) (r : Rp K G S M H v d) : Rep K G S H0 M0 (ρ.set i (some (.dat d))) (σ.set i (some v)) H M := by
  have key : ∀ (j : Nat) (y : EV), (ρ.set i (some (.dat d)))[j]? = some (some y) → (j = i ∧ i < ρ.length ∧ y = .dat d) ∨ (j ≠ i ∧ ρ[j]? = some (some y)) := fun j y e => by
    by_cases hj : j = i
    · subst hj
      by_cases hl : j < ρ.length
      · rw [List.getElem?_set_self hl] at e
        exact .inl ⟨rfl, hl, (Option.some.inj (Option.some.inj e)).symm⟩
      · rw [List.getElem?_eq_none (by simpa using hl)] at e; cases e
    · rw [List.getElem?_set_ne (Ne.symm hj)] at e
      exact .inr ⟨hj, e⟩
  refine ⟨by simpa using R.len, fun j d' e => ?_, fun j kd ds e => ?_, fun j k kd ld ds es p e1 e2 n h1 => ?_, R.src, R.mt, R.mt0, R.m0, R.fr⟩
  · rcases key j _ e with ⟨rfl, hl, e2⟩ | ⟨hj, e2⟩
    · cases e2
      exact ⟨v, List.getElem?_set_self (by rw [R.len]; exact hl), r⟩
    · rw [List.getElem?_set_ne (Ne.symm hj)]
      exact R.dat j d' e2
  · rcases key j _ e with ⟨rfl, hl, e2⟩ | ⟨hj, e2⟩
    · cases e2
    · rw [List.getElem?_set_ne (Ne.symm hj)]
      exact R.ow j kd ds e2
  · rcases key j _ e1 with ⟨_, _, z⟩ | ⟨hj, z1⟩
    · cases z
    rcases key k _ e2 with ⟨_, _, z⟩ | ⟨hk, z2⟩
    · cases z
    rw [List.getElem?_set_ne (Ne.symm hj)] at h1
    rw [List.getElem?_set_ne (Ne.symm hk)]
    exact R.sep j k kd ld ds es p z1 z2 n h1
/-- slots are forgotten -/
theorem Rep.weak {ρ' : En} (R : Rep K G S H0 M0 ρ σ H M) (hl : ρ'.length = ρ.length) (h : ∀ (i : Nat) (y : EV), ρ'[i]? = some (some y) → ρ[i]? = some (some y)) : Rep K G S H0 M0 ρ' σ H M :=
  ⟨R.len.trans hl.symm, fun i d e => R.dat i d (h i _ e), fun i k ds e => R.ow i k ds (h i _ e), fun i j k l ds es p e1 e2 => R.sep i j k l ds es p (h i _ e1) (h j _ e2), R.src, R.mt, R.mt0, R.m0, R.fr⟩
/-- an own list is written -/
theorem Rep.writeK {i : Nat} {p : Addr} {k0 k1 : Knd} {ds es : List D} {ws : List V} (R : Rep K G S H0 M0 ρ σ H M) (e : ρ[i]? = some (some (.ow k0 ds))) (ep : σ[i]? = some (some (.ref p))) (r : RpA K G S M H ws es) :
    Rep K G S H0 M0 (ρ.set i (some (.ow k1 es))) σ (upd H p (k1.ho ws)) M ∧ Pre M H M (upd H p (k1.ho ws)) := by
  obtain ⟨p', vs', h1, h2, h3, h4, h5, h6⟩ := R.ow i k0 ds e
  rw [ep] at h1
  obtain rfl : p = p' := by cases h1; rfl
  have pr : Pre M H M (upd H p (k1.ho ws)) := fun b o hb n => ⟨by rw [upd_ne (show b ≠ p from fun z => by rw [z] at n; exact n h4)]; exact hb, n⟩
  have hl : i < ρ.length := (List.getElem?_eq_some_iff.mp e).1
  have key : ∀ (j : Nat) (y : EV), (ρ.set i (some (.ow k1 es)))[j]? = some (some y) → (j = i ∧ y = .ow k1 es) ∨ (j ≠ i ∧ ρ[j]? = some (some y)) := fun j y e => by
    by_cases hj : j = i
    · subst hj
      rw [List.getElem?_set_self hl] at e
      exact .inl ⟨rfl, (Option.some.inj (Option.some.inj e)).symm⟩
    · rw [List.getElem?_set_ne (Ne.symm hj)] at e
      exact .inr ⟨hj, e⟩
  refine ⟨⟨by simpa using R.len, fun j d' e' => ?_, fun j kd ds' e' => ?_, fun j k kd ld ds' es' q e1 e2 n hq => ?_, fun a ea => ?_, fun b m => ?_, R.mt0, R.m0, fun b o hb n => ?_⟩, pr⟩
  · rcases key j _ e' with ⟨_, z⟩ | ⟨hj, z⟩
    · cases z
    · obtain ⟨v, g1, g2⟩ := R.dat j d' z
      exact ⟨v, g1, g2.pre pr⟩
  · rcases key j _ e' with ⟨rfl, z⟩ | ⟨hj, z⟩
    · cases z
      exact ⟨p, ws, ep, upd_same, r.pre pr, h4, h5, h6⟩
    · obtain ⟨q, us, g1, g2, g3, g4⟩ := R.ow j kd ds' z
      have hq : q ≠ p := fun w => R.sep i j k0 kd ds ds' p e z (Ne.symm hj) ep (w ▸ g1)
      exact ⟨q, us, g1, by rw [upd_ne hq]; exact g2, g3.pre pr, g4⟩
  · have f : ∀ (j : Nat) (kd : Knd) (ds' : List D), (ρ.set i (some (.ow k1 es)))[j]? = some (some (.ow kd ds')) → ∃ kf fs, ρ[j]? = some (some (.ow kf fs)) := fun j kd ds' w => by
      rcases key j _ w with ⟨rfl, _⟩ | ⟨_, z⟩
      · exact ⟨k0, ds, e⟩
      · exact ⟨kd, ds', z⟩
    obtain ⟨g1, f1, w1⟩ := f j _ _ e1
    obtain ⟨g2, f2, w2⟩ := f k _ _ e2
    exact R.sep j k g1 g2 f1 f2 q w1 w2 n hq
  · obtain ⟨so, ma⟩ := R.src a ea
    have na : a ≠ p := fun z => h5 (z ▸ ea)
    exact ⟨so.pre pr (upd_ne na), ma⟩
  · by_cases hb : b = p
    · rw [hb, upd_same]; exact fun z => nomatch z
    · rw [upd_ne hb]; exact R.mt b m
  · rw [upd_ne (fun z => by rw [z, h6] at hb; cases hb)]
    exact R.fr b o hb n
theorem Rep.write {i : Nat} {p : Addr} {ds es : List D} {ws : List V} (R : Rep K G S H0 M0 ρ σ H M) (e : ρ[i]? = some (some (.own ds))) (ep : σ[i]? = some (some (.ref p))) (r : RpA K G S M H ws es) :
    Rep K G S H0 M0 (ρ.set i (some (.own es))) σ (upd H p (.lst ws)) M ∧ Pre M H M (upd H p (.lst ws)) := R.writeK (k1 := .L) e ep r
/-- all that is tracked but the source stays: behind a call, a block -/
theorem Rep.frame (R : Rep K G S H0 M0 ρ σ H M) (h : ∀ b o, H b = some o → S ≠ some b → H' b = some o) (hs : ∀ a, S = some a → SrcOk M H' a) : Rep K G S H0 M0 ρ σ H' M ∧ Pre M H M H' := by
  have ns : ∀ b, ¬ M b → S ≠ some b := fun b n e => n (R.src b e).2
  have pr : Pre M H M H' := fun b o hb n => ⟨h b o hb (ns b n), n⟩
  refine ⟨⟨R.len, fun i d e => ?_, fun i kd ds e => ?_, R.sep, fun a e => ⟨hs a e, (R.src a e).2⟩, fun b m z => ?_, R.mt0, R.m0, fun b o hb n => h b o (R.fr b o hb n) n⟩, pr⟩
  · obtain ⟨v, h1, h2⟩ := R.dat i d e
    exact ⟨v, h1, h2.pre pr⟩
  · obtain ⟨p, vs, h1, h2, h3, h4, h5, h6⟩ := R.ow i kd ds e
    exact ⟨p, vs, h1, h p _ h2 h5, h3.pre pr, h4, h5, h6⟩
  · by_cases e : S = some b
    · obtain ⟨c, ns', pl, gr, tu, h1, _⟩ := hs b e
      rw [h1] at z; cases z
    · cases q : H b with
      | none => exact R.mt b m q
      | some o => rw [h b o q e] at z; cases z
/-- a new list, owned by slot i -/
theorem Rep.newOwnK {i : Nat} {p : Addr} {k0 : Knd} {ds : List D} {vs : List V} (R : Rep K G S H0 M0 ρ σ H M) (hp : H p = none) (r : RpA K G S M H vs ds) :
    Rep K G S H0 M0 (ρ.set i (some (.ow k0 ds))) (σ.set i (some (.ref p))) (upd H p (k0.ho vs)) (fun b => M b ∨ b = p) ∧ Pre M H (fun b => M b ∨ b = p) (upd H p (k0.ho vs)) := by
  have np : ∀ b o, H b = some o → b ≠ p := fun b o e z => by rw [z, hp] at e; cases e
  have pr : Pre M H (fun b => M b ∨ b = p) (upd H p (k0.ho vs)) := fun b o e n => ⟨by rw [upd_ne (np b o e)]; exact e, fun z => z.elim n (np b o e)⟩
  have nm : ¬ M p := R.fresh hp
  have n0 : H0 p = none := by
    cases q : H0 p with
    | none => rfl
    | some o =>
      by_cases e : S = some p
      · exact absurd (R.src p e).2 nm
      · rw [R.fr p o q e] at hp; cases hp
  have nS : S ≠ some p := fun e => nm (R.src p e).2
  have key : ∀ (j : Nat) (y : EV), (ρ.set i (some (.ow k0 ds)))[j]? = some (some y) → (j = i ∧ i < ρ.length ∧ y = .ow k0 ds) ∨ (j ≠ i ∧ ρ[j]? = some (some y)) := fun j y e => by
    by_cases hj : j = i
    · subst hj
      by_cases hl : j < ρ.length
      · rw [List.getElem?_set_self hl] at e
        exact .inl ⟨rfl, hl, (Option.some.inj (Option.some.inj e)).symm⟩
      · rw [List.getElem?_eq_none (by simpa using hl)] at e; cases e
    · rw [List.getElem?_set_ne (Ne.symm hj)] at e
      exact .inr ⟨hj, e⟩
  refine ⟨⟨by simpa using R.len, fun j d' e => ?_, fun j kd es e => ?_, fun j k kd ld fs es q e1 e2 n h1 => ?_, fun a ea => ?_, fun b m => ?_, R.mt0, fun b m => .inl (R.m0 b m), fun b o hb n => ?_⟩, pr⟩
  · rcases key j _ e with ⟨rfl, hl, e2⟩ | ⟨hj, e2⟩
    · cases e2
    · rw [List.getElem?_set_ne (Ne.symm hj)]
      obtain ⟨v, g1, g2⟩ := R.dat j d' e2
      exact ⟨v, g1, g2.pre pr⟩
  · rcases key j _ e with ⟨rfl, hl, e2⟩ | ⟨hj, e2⟩
    · cases e2
      exact ⟨p, vs, List.getElem?_set_self (by rw [R.len]; exact hl), upd_same, r.pre pr, .inr rfl, nS, n0⟩
    · rw [List.getElem?_set_ne (Ne.symm hj)]
      obtain ⟨q, ws, g1, g2, g3, g4, g5⟩ := R.ow j kd es e2
      exact ⟨q, ws, g1, by rw [upd_ne (np q _ g2)]; exact g2, g3.pre pr, .inl g4, g5⟩
  · rcases key j _ e1 with ⟨rfl, hl1, z1⟩ | ⟨hj, z1⟩
    · rcases key k _ e2 with ⟨rfl, _, z2⟩ | ⟨hk, z2⟩
      · exact absurd rfl n
      · rw [List.getElem?_set_self (by rw [R.len]; exact hl1)] at h1
        rw [List.getElem?_set_ne (Ne.symm hk)]
        have : p = q := by cases h1; rfl
        subst this
        intro z
        obtain ⟨q', ws, g1, g2, g3, g4, _⟩ := R.ow k ld es z2
        rw [z] at g1
        cases g1
        exact nm g4
    · rw [List.getElem?_set_ne (Ne.symm hj)] at h1
      rcases key k _ e2 with ⟨rfl, hl2, z2⟩ | ⟨hk, z2⟩
      · rw [List.getElem?_set_self (by rw [R.len]; exact hl2)]
        intro z
        have : p = q := by cases z; rfl
        subst this
        obtain ⟨q', ws, g1, g2, g3, g4, _⟩ := R.ow j kd fs z1
        rw [h1] at g1
        cases g1
        exact nm g4
      · rw [List.getElem?_set_ne (Ne.symm hk)]
        exact R.sep j k kd ld fs es q z1 z2 n h1
  · obtain ⟨so, ma⟩ := R.src a ea
    have na : a ≠ p := fun z => nS (z ▸ ea)
    exact ⟨so.pre pr (upd_ne na), .inl ma⟩
  · by_cases hb : b = p
    · rw [hb, upd_same]; exact fun z => nomatch z
    · rw [upd_ne hb]; exact R.mt b (m.elim id fun z => absurd z hb)
  · rw [upd_ne (fun z => by rw [z, n0] at hb; cases hb)]
    exact R.fr b o hb n
theorem Rep.newOwn {i : Nat} {p : Addr} {ds : List D} {vs : List V} (R : Rep K G S H0 M0 ρ σ H M) (hp : H p = none) (r : RpA K G S M H vs ds) :
    Rep K G S H0 M0 (ρ.set i (some (.own ds))) (σ.set i (some (.ref p))) (upd H p (.lst vs)) (fun b => M b ∨ b = p) ∧ Pre M H (fun b => M b ∨ b = p) (upd H p (.lst vs)) := R.newOwnK (k0 := .L) hp r
/-- an own list becomes data -/
theorem Rep.freeze {i : Nat} {ds : List D} (R : Rep K G S H0 M0 ρ σ H M) (e : ρ[i]? = some (some (.own ds))) : ∃ M', Rep K G S H0 M0 (ρ.set i (some (.dat (.lst ds)))) σ H M' ∧ Pre M H M' H := by
  obtain ⟨p, vs, h1, h2, h3, h4, h5, h6⟩ := R.own i ds e
  have pr : Pre M H (fun b => M b ∧ b ≠ p) H := fun b o hb n => ⟨hb, fun z => n z.1⟩
  have hl : i < ρ.length := (List.getElem?_eq_some_iff.mp e).1
  have key : ∀ (j : Nat) (y : EV), (ρ.set i (some (.dat (.lst ds))))[j]? = some (some y) → (j = i ∧ y = .dat (.lst ds)) ∨ (j ≠ i ∧ ρ[j]? = some (some y)) := fun j y e => by
    by_cases hj : j = i
    · subst hj
      rw [List.getElem?_set_self hl] at e
      exact .inl ⟨rfl, (Option.some.inj (Option.some.inj e)).symm⟩
    · rw [List.getElem?_set_ne (Ne.symm hj)] at e
      exact .inr ⟨hj, e⟩
  refine ⟨fun b => M b ∧ b ≠ p, ⟨by simpa using R.len, fun j d' e' => ?_, fun j kd es e' => ?_, fun j k kd ld fs es q e1 e2 n hq => ?_, fun a ea => ?_, fun b m => R.mt b m.1, R.mt0, fun b m => ⟨R.m0 b m, fun z => ?_⟩, R.fr⟩, pr⟩
  · rcases key j _ e' with ⟨rfl, z⟩ | ⟨hj, z⟩
    · cases z
      exact ⟨.ref p, h1, .lst ⟨fun z => z.2 rfl, h2⟩ (h3.pre pr)⟩
    · obtain ⟨v, g1, g2⟩ := R.dat j d' z
      exact ⟨v, g1, g2.pre pr⟩
  · rcases key j _ e' with ⟨_, z⟩ | ⟨hj, z⟩
    · cases z
    · obtain ⟨q, ws, g1, g2, g3, g4, g5⟩ := R.ow j kd es z
      exact ⟨q, ws, g1, g2, g3.pre pr, ⟨g4, fun w => R.sep i j .L kd ds es p e z (Ne.symm hj) h1 (w ▸ g1)⟩, g5⟩
  · rcases key j _ e1 with ⟨_, z⟩ | ⟨hj, z1⟩
    · cases z
    rcases key k _ e2 with ⟨_, z⟩ | ⟨hk, z2⟩
    · cases z
    exact R.sep j k kd ld fs es q z1 z2 n hq
  · obtain ⟨so, ma⟩ := R.src a ea
    exact ⟨so.mono fun b m => m.1, ma, fun z => h5 (z ▸ ea)⟩
  · rw [z] at m
    exact R.mt0 p m h6
/-- a new fixed object -/
theorem Rep.laid {p : Addr} {o : HO} (R : Rep K G S H0 M0 ρ σ H M) (hp : H p = none) : Rep K G S H0 M0 ρ σ (upd H p o) M ∧ Pre M H M (upd H p o) ∧ ¬ M p :=
  have s : Same H (upd H p o) := fun b x e => by rw [upd_ne (ne_of_none e hp)]; exact e
  ⟨R.same s, pre_of_same s, R.fresh hp⟩
end

/-! ## the judgements -/
section
variable (X : Cx) (G : Cls)
def mE (e : Expr) : TE := fun σ H Q => ∀ (pins : List (Addr × Obj)) (s : Shared), Inv X pins σ H s → wpAny (model X.prog X.w) X.A (eval e X.env) (EP X pins σ Q) X.xe s
def mT (e : Expr) : TT := fun σ H Q => ∀ (pins : List (Addr × Obj)) (s : Shared), Inv X pins σ H s → wpAny (model X.prog X.w) X.A (isTrue e X.env (eval e X.env)) (TP X pins σ Q) X.xe s
def mW (e : Expr) : TT := fun σ H Q => ∀ (wh : Sem Value) (pins : List (Addr × Obj)) (s : Shared), Inv X pins σ H s → wpAny (model X.prog X.w) X.A (isTrue e X.env wh) (TP X pins σ Q) X.xe s
def mA (es : List Expr) : TA := fun σ H Q => ∀ (pos : Pos) (pins : List (Addr × Obj)) (s : Shared), Inv X pins σ H s → wpAny (model X.prog X.w) X.A (spliced (backTo pos (starEach es X.env))) (AP X pins σ Q) X.xe s
def mS (st : Stmt) : TS := fun E σ H => ∀ (pins : List (Addr × Obj)) (s : Shared), Inv X pins σ H s → wpAny (model X.prog X.w) X.A (exec st X.env) (SP X pins E) X.xe s
def mSs (st : List Stmt) : TS := fun E σ H => ∀ (pins : List (Addr × Obj)) (s : Shared), Inv X pins σ H s → wpAny (model X.prog X.w) X.A (execs st X.env) (SP X pins E) X.xe s
theorem pe_m (e : Expr) : PE X e (mE X e) := ⟨fun pins s _ _ _ I h => h pins s I⟩
theorem pt_m (e : Expr) : PT X e (mT X e) := ⟨fun pins s _ _ _ I h => h pins s I⟩
theorem pw_m (e : Expr) : PW X e (mW X e) := ⟨fun wh pins s _ _ _ I h => h wh pins s I⟩
theorem pa_m (es : List Expr) : PA X es (mA X es) := ⟨fun pos pins s _ _ _ I h => h pos pins s I⟩
theorem ps_m (st : Stmt) : PS X st (mS X st) := ⟨fun pins s _ _ _ I h => h pins s I⟩
theorem pss_m (st : List Stmt) : PSs X st (mSs X st) := ⟨fun pins s _ _ _ I h => h pins s I⟩
variable {X}
theorem mE_of {e : Expr} {t : TE} (h : PE X e t) {σ H Q} (q : t σ H Q) : mE X e σ H Q := fun pins s I => h.run pins s σ H Q I q
theorem mT_of {e : Expr} {t : TT} (h : PT X e t) {σ H Q} (q : t σ H Q) : mT X e σ H Q := fun pins s I => h.run pins s σ H Q I q
theorem mW_of {e : Expr} {t : TT} (h : PW X e t) {σ H Q} (q : t σ H Q) : mW X e σ H Q := fun wh pins s I => h.run wh pins s σ H Q I q
theorem mA_of {es : List Expr} {t : TA} (h : PA X es t) {σ H Q} (q : t σ H Q) : mA X es σ H Q := fun pos pins s I => h.run pos pins s σ H Q I q
theorem mS_of {st : Stmt} {t : TS} (h : PS X st t) {σ H E} (q : t E σ H) : mS X st E σ H := fun pins s I => h.run pins s σ H E I q
theorem mSs_of {st : List Stmt} {t : TS} (h : PSs X st t) {σ H E} (q : t E σ H) : mSs X st E σ H := fun pins s I => h.run pins s σ H E I q
variable (X)

/-- behind an expression -/
def WE (e : Expr) (ρ : En) (Φ : D → En → Prop) : Prop :=
  ∀ (S : Option Addr) (H0 : Hp) (M0 : Mu) (σ : L2.St) (H : Hp) (M : Mu), Rep X.K G S H0 M0 ρ σ H M → ∀ Q : VK,
    (∀ v H' M' d ρ', Pre M H M' H' → Rep X.K G S H0 M0 ρ' σ H' M' → Rp X.K G S M' H' v d → Φ d ρ' → Q v H') → mE X e σ H Q
/-- an expression whose value is a new list -/
def WF (e : Expr) (ρ : En) (Φ : List D → En → Prop) : Prop :=
  ∀ (S : Option Addr) (H0 : Hp) (M0 : Mu) (σ : L2.St) (H : Hp) (M : Mu), Rep X.K G S H0 M0 ρ σ H M → ∀ Q : VK,
    (∀ p vs H' M' ds ρ', Pre M H M' H' → Rep X.K G S H0 M0 ρ' σ H' M' → H' p = none → RpA X.K G S M' H' vs ds → Φ ds ρ' → Q (.ref p) (upd H' p (.lst vs))) → mE X e σ H Q
def WA (es : List Expr) (ρ : En) (Φ : List D → En → Prop) : Prop :=
  ∀ (S : Option Addr) (H0 : Hp) (M0 : Mu) (σ : L2.St) (H : Hp) (M : Mu), Rep X.K G S H0 M0 ρ σ H M → ∀ Q : List V → Hp → Prop,
    (∀ vs H' M' ds ρ', Pre M H M' H' → Rep X.K G S H0 M0 ρ' σ H' M' → RpA X.K G S M' H' vs ds → Φ ds ρ' → Q vs H') → mA X es σ H Q
def WT (e : Expr) (ρ : En) (Φ : Bool → En → Prop) : Prop :=
  ∀ (S : Option Addr) (H0 : Hp) (M0 : Mu) (σ : L2.St) (H : Hp) (M : Mu), Rep X.K G S H0 M0 ρ σ H M → ∀ Q : Bool → Hp → Prop,
    (∀ b H' M' ρ', Pre M H M' H' → Rep X.K G S H0 M0 ρ' σ H' M' → Φ b ρ' → Q b H') → mT X e σ H Q
def WW (e : Expr) (ρ : En) (Φ : Bool → En → Prop) : Prop :=
  ∀ (S : Option Addr) (H0 : Hp) (M0 : Mu) (σ : L2.St) (H : Hp) (M : Mu), Rep X.K G S H0 M0 ρ σ H M → ∀ Q : Bool → Hp → Prop,
    (∀ b H' M' ρ', Pre M H M' H' → Rep X.K G S H0 M0 ρ' σ H' M' → Φ b ρ' → Q b H') → mW X e σ H Q
structure Po where
  nx : En → Prop
  rt : D → Prop
  bk : En → Prop := fun _ => False
  ct : En → Prop := fun _ => False
structure PoOk (S : Option Addr) (H0 : Hp) (M0 : Mu) (M : Mu) (H : Hp) (P : Po) (E : Ends) : Prop where
  nx : ∀ σ' H' M' ρ', Pre M H M' H' → Rep X.K G S H0 M0 ρ' σ' H' M' → P.nx ρ' → E.nx σ' H'
  rt : ∀ v σ' H' M' d ρ', Pre M H M' H' → Rep X.K G S H0 M0 ρ' σ' H' M' → Rp X.K G S M' H' v d → P.rt d → E.rt v H'
  bk : ∀ σ' H' M' ρ', Pre M H M' H' → Rep X.K G S H0 M0 ρ' σ' H' M' → P.bk ρ' → E.bk σ' H'
  ct : ∀ σ' H' M' ρ', Pre M H M' H' → Rep X.K G S H0 M0 ρ' σ' H' M' → P.ct ρ' → E.ct σ' H'
def WS (st : Stmt) (ρ : En) (P : Po) : Prop :=
  ∀ (S : Option Addr) (H0 : Hp) (M0 : Mu) (σ : L2.St) (H : Hp) (M : Mu), Rep X.K G S H0 M0 ρ σ H M → ∀ E : Ends, PoOk X G S H0 M0 M H P E → mS X st E σ H
def WSs (st : List Stmt) (ρ : En) (P : Po) : Prop :=
  ∀ (S : Option Addr) (H0 : Hp) (M0 : Mu) (σ : L2.St) (H : Hp) (M : Mu), Rep X.K G S H0 M0 ρ σ H M → ∀ E : Ends, PoOk X G S H0 M0 M H P E → mSs X st E σ H
end

section
variable {X : Cx} {G : Cls} {S : Option Addr} {H0 : Hp} {M0 : Mu}
theorem PoOk.pre {M M' : Mu} {H H' : Hp} {P : Po} {E : Ends} (k : PoOk X G S H0 M0 M H P E) (p : Pre M H M' H') : PoOk X G S H0 M0 M' H' P E :=
  ⟨fun σ' H2 M2 ρ' q => k.nx σ' H2 M2 ρ' (p.trans q), fun v σ' H2 M2 d ρ' q => k.rt v σ' H2 M2 d ρ' (p.trans q), fun σ' H2 M2 ρ' q => k.bk σ' H2 M2 ρ' (p.trans q), fun σ' H2 M2 ρ' q => k.ct σ' H2 M2 ρ' (p.trans q)⟩

/-! ### blocks and statements -/
variable {st : Stmt} {rest : List Stmt} {ρ : En} {P : Po} {pos : Pos} {e c : Expr} {a b : List Stmt}
theorem wss_nil (h : P.nx ρ) : WSs X G [] ρ P := fun S H0 M0 σ H M R E k => mSs_of pss_nil (k.nx σ H M ρ (Pre.refl _ _) R h)
theorem wss_cons (h : WS X G st ρ { P with nx := fun ρ' => WSs X G rest ρ' P }) : WSs X G (st :: rest) ρ P := fun S H0 M0 σ H M R E k => by
  refine mSs_of (pss_cons (ps_m X st) (pss_m X rest)) ?_
  show mS X st { E with nx := mSs X rest E } σ H
  refine h S H0 M0 σ H M R _ ⟨fun σ' H' M' ρ' p R' w => ?_, k.rt, k.bk, k.ct⟩
  exact w S H0 M0 σ' H' M' R' E (k.pre p)
theorem wss_one (h : WS X G st ρ P) : WSs X G [st] ρ P := fun S H0 M0 σ H M R E k => mSs_of (pss_one (ps_m X st)) (h S H0 M0 σ H M R E k)
theorem ws_pass (h : P.nx ρ) : WS X G (.Pass pos) ρ P := fun S H0 M0 σ H M R E k => mS_of ps_pass (k.nx σ H M ρ (Pre.refl _ _) R h)
theorem ws_break (h : P.bk ρ) : WS X G (.Break pos) ρ P := fun S H0 M0 σ H M R E k => mS_of ps_break (k.bk σ H M ρ (Pre.refl _ _) R h)
theorem ws_continue (h : P.ct ρ) : WS X G (.Continue pos) ρ P := fun S H0 M0 σ H M R E k => mS_of ps_continue (k.ct σ H M ρ (Pre.refl _ _) R h)
theorem ws_if (h : WT X G c ρ fun d ρ1 => if d = true then WSs X G a ρ1 P else WSs X G b ρ1 P) : WS X G (.If c a b pos) ρ P := fun S H0 M0 σ H M R E k => by
  refine mS_of (ps_if (pt_m X c) (pss_m X a) (pss_m X b)) (h S H0 M0 σ H M R _ fun d H' M' ρ' p R' w => ?_)
  cases d with
  | true => exact w S H0 M0 σ H' M' R' E (k.pre p)
  | false => exact w S H0 M0 σ H' M' R' E (k.pre p)
theorem ws_ret (h : WE X G e ρ fun d _ => P.rt d) : WS X G (.Return (some e) pos) ρ P := fun S H0 M0 σ H M R E k =>
  mS_of (ps_ret (pe_m X e)) (h S H0 M0 σ H M R _ fun v H' M' d ρ' p R' r w => k.rt v σ H' M' d ρ' p R' r w)
theorem ws_retN (h : P.rt .non) : WS X G (.Return none pos) ρ P := fun S H0 M0 σ H M R E k =>
  mS_of ps_retN (k.rt .non σ H M .non ρ (Pre.refl _ _) R .non h)
theorem ws_expr (hs : swapsWith e none pos.line X.env = pure false) (h : WE X G e ρ fun _ ρ' => P.nx ρ') : WS X G (.Expr e pos) ρ P := fun S H0 M0 σ H M R E k =>
  mS_of (ps_expr (pe_m X e) hs) (h S H0 M0 σ H M R _ fun v H' M' d ρ' p R' r w => k.nx σ H' M' ρ' p R' w)
/-- name = value, data -/
theorem ws_asg {i : Nat} {x : Str} {pos' : Pos} (hN : X.N.Nodup) (hi : X.N[i]? = some x) (hx : Loc X.env.scope x) (hs : swapsWith e (some (.Name x pos')) pos.line X.env = pure false) (hf : X.fn x = true ∨ X.env.scope.names.lookup x = some .local)
    (h : WE X G e ρ fun d ρ' => P.nx (ρ'.set i (some (.dat d)))) : WS X G (.Assign [.Name x pos'] e pos) ρ P := fun S H0 M0 σ H M R E k =>
  mS_of (ps_set hN hi hx (pe_m X e) hs hf) (h S H0 M0 σ H M R _ fun v H' M' d ρ' p R' r w => k.nx _ H' M' _ p (R'.set r) w)
/-- name = a new list, owned -/
theorem ws_own {i : Nat} {x : Str} {pos' : Pos} (hN : X.N.Nodup) (hi : X.N[i]? = some x) (hx : Loc X.env.scope x) (hs : swapsWith e (some (.Name x pos')) pos.line X.env = pure false) (hf : X.fn x = true ∨ X.env.scope.names.lookup x = some .local)
    (h : WF X G e ρ fun ds ρ' => P.nx (ρ'.set i (some (.own ds)))) : WS X G (.Assign [.Name x pos'] e pos) ρ P := fun S H0 M0 σ H M R E k =>
  mS_of (ps_set hN hi hx (pe_m X e) hs hf) (h S H0 M0 σ H M R _ fun q vs H' M' ds ρ' p R' hq r w =>
    let ⟨R2, p2⟩ := R'.newOwn (i := i) hq r
    k.nx _ _ _ _ (p.trans p2) R2 w)
theorem wss_freeze {i : Nat} {ds : List D} {sts : List Stmt} (e : ρ[i]? = some (some (.own ds))) (h : WSs X G sts (ρ.set i (some (.dat (.lst ds)))) P) : WSs X G sts ρ P := fun S H0 M0 σ H M R E k =>
  let ⟨M', R', p⟩ := R.freeze e
  h S H0 M0 σ H M' R' E (k.pre p)
theorem ws_freeze {i : Nat} {ds : List D} (e : ρ[i]? = some (some (.own ds))) (h : WS X G st (ρ.set i (some (.dat (.lst ds)))) P) : WS X G st ρ P := fun S H0 M0 σ H M R E k =>
  let ⟨M', R', p⟩ := R.freeze e
  h S H0 M0 σ H M' R' E (k.pre p)
theorem we_freeze {i : Nat} {ds : List D} {Φ} (q : ρ[i]? = some (some (.own ds))) (h : WE X G e (ρ.set i (some (.dat (.lst ds)))) Φ) : WE X G e ρ Φ := fun S H0 M0 σ H M R Q k =>
  let ⟨M', R', p⟩ := R.freeze q
  h S H0 M0 σ H M' R' Q fun v H2 M2 d ρ' p2 => k v H2 M2 d ρ' (p.trans p2)
/-- weaker ends -/
theorem we_mono {Φ Φ'} (h : WE X G e ρ Φ) (m : ∀ d ρ', Φ d ρ' → Φ' d ρ') : WE X G e ρ Φ' := fun S H0 M0 σ H M R Q k => h S H0 M0 σ H M R Q fun v H' M' d ρ' p R' r w => k v H' M' d ρ' p R' r (m d ρ' w)
theorem wt_mono {Φ Φ'} (h : WT X G e ρ Φ) (m : ∀ d ρ', Φ d ρ' → Φ' d ρ') : WT X G e ρ Φ' := fun S H0 M0 σ H M R Q k => h S H0 M0 σ H M R Q fun v H' M' ρ' p R' w => k v H' M' ρ' p R' (m v ρ' w)
theorem wss_mono {sts : List Stmt} {P P' : Po} (h : WSs X G sts ρ P) (m1 : ∀ ρ', P.nx ρ' → P'.nx ρ') (m2 : ∀ d, P.rt d → P'.rt d) (m3 : ∀ ρ', P.bk ρ' → P'.bk ρ') (m4 : ∀ ρ', P.ct ρ' → P'.ct ρ') : WSs X G sts ρ P' := fun S H0 M0 σ H M R E k =>
  h S H0 M0 σ H M R E ⟨fun σ' H' M' ρ' p R' w => k.nx σ' H' M' ρ' p R' (m1 _ w), fun v σ' H' M' d ρ' p R' r w => k.rt v σ' H' M' d ρ' p R' r (m2 _ w), fun σ' H' M' ρ' p R' w => k.bk σ' H' M' ρ' p R' (m3 _ w), fun σ' H' M' ρ' p R' w => k.ct σ' H' M' ρ' p R' (m4 _ w)⟩
theorem we_of_wf {Φ} (h : WF X G e ρ fun ds ρ' => Φ (.lst ds) ρ') : WE X G e ρ Φ := fun S H0 M0 σ H M R Q k => h S H0 M0 σ H M R Q fun q vs H' M' ds ρ' p R' hq r w =>
  let ⟨R2, p2, n⟩ := R'.laid (o := .lst vs) hq
  k (.ref q) _ M' (.lst ds) ρ' (p.trans p2) R2 (.lst ⟨n, upd_same⟩ (r.pre p2)) w
end
end DL

namespace DL
open PySem PySem.Spec PyProof.Rows L2

/-! ## expressions -/
section
variable {X : Cx} {G : Cls} {ρ : En} {pos p : Pos} {e a b c : Expr} {es : List Expr} {x : Str}

theorem we_var (i : Nat) {d : D} {Φ : D → En → Prop} (hN : X.N[i]? = some x) (hv : Vis X.env.scope x) (hr : ρ[i]? = some (some (.dat d))) (hd : (x == ("__debug__" : Str)) = false) (hcd : (x == ("__classdict__" : Str)) = false) (h : Φ d ρ) : WE X G (.Name x pos) ρ Φ := fun S H0 M0 σ H M R Q k => by
  obtain ⟨v, e, r⟩ := R.dat i d hr
  exact mE_of (pe_var hN hv hd hcd) ⟨v, e, k v H M d ρ (Pre.refl _ _) R r h⟩
theorem we_int {i : Int} {j} {Φ : D → En → Prop} (h : Φ (.int i) ρ) : WE X G (.Constant (.int i) j pos) ρ Φ := fun S H0 M0 σ H M R Q k => mE_of pe_int (k _ H M _ ρ (Pre.refl _ _) R (.int i) h)
theorem we_bl {i : Bool} {j} {Φ : D → En → Prop} (h : Φ (.bl i) ρ) : WE X G (.Constant (.bool i) j pos) ρ Φ := fun S H0 M0 σ H M R Q k => mE_of pe_bl (k _ H M _ ρ (Pre.refl _ _) R (.bl i) h)
theorem we_non {j} {Φ : D → En → Prop} (h : Φ .non ρ) : WE X G (.Constant .none j pos) ρ Φ := fun S H0 M0 σ H M R Q k => mE_of pe_non (k _ H M _ ρ (Pre.refl _ _) R .non h)
theorem we_str {i : Str} {j} {Φ : D → En → Prop} (h : Φ (.str i) ρ) : WE X G (.Constant (.str i) j pos) ρ Φ := fun S H0 M0 σ H M R Q k => mE_of pe_str (k _ H M _ ρ (Pre.refl _ _) R (.str i) h)
/-- a module's constant int -/
theorem we_globI {i : Int} {u : Value} {Φ : D → En → Prop} (hg : Gl X x) (hm : X.mg x = some u) (r : RelV (.int i) u) (hd : (x == ("__debug__" : Str)) = false) (h : Φ (.int i) ρ) : WE X G (.Name x pos) ρ Φ := fun S H0 M0 σ H M R Q k =>
  mE_of (pe_glob hg hm r hd) (k _ H M _ ρ (Pre.refl _ _) R (.int i) h)

/-! ### operations on values -/
inductive OpF where
  | b (o : Operator) | c (o : CmpOp)
def OpF.f : OpF → Value → Value → Sem Value
  | .b o => binaryOp o
  | .c o => compareOp o
variable (X G) in
/-- a two-place operation on data -/
def BinD (f : OpF) (x y : D) (Ψ : D → Prop) : Prop :=
  ∀ (S : Option Addr) (M : Mu) (H : Hp) (v w : V), (∀ b, M b → H b ≠ none) → Rp X.K G S M H v x → Rp X.K G S M H w y → ∀ Q : VK,
    (∀ u H' d, Same H H' → Rp X.K G S M H' u d → Ψ d → Q u H') → ∀ (pins : List (Addr × Obj)) (s : Shared) (σ : L2.St) (a b : Value), Inv X pins σ H s → RelV v a → RelV w b → wpAny (model X.prog X.w) X.A (f.f a b) (EP X pins σ Q) X.xe s
variable (X G) in
def UnD (f : Value → Sem Value) (x : D) (Ψ : D → Prop) : Prop :=
  ∀ (S : Option Addr) (M : Mu) (H : Hp) (v : V), (∀ b, M b → H b ≠ none) → Rp X.K G S M H v x → ∀ Q : VK,
    (∀ u H' d, Same H H' → Rp X.K G S M H' u d → Ψ d → Q u H') → ∀ (pins : List (Addr × Obj)) (s : Shared) (σ : L2.St) (a : Value), Inv X pins σ H s → RelV v a → wpAny (model X.prog X.w) X.A (f a) (EP X pins σ Q) X.xe s
variable (X G) in
/-- a call of a built-in value on data -/
def CallD (f : Value) (xs : List D) (Ψ : D → Prop) : Prop :=
  ∀ (S : Option Addr) (M : Mu) (H : Hp) (vs : List V), (∀ b, M b → H b ≠ none) → RpA X.K G S M H vs xs → ∀ Q : VK,
    (∀ u H' d, Same H H' → Rp X.K G S M H' u d → Ψ d → Q u H') → ∀ (pins : List (Addr × Obj)) (s : Shared) (σ : L2.St) (us : List Value), Inv X pins σ H s → Vals vs us → wpAny (model X.prog X.w) X.A (call f us) (EP X pins σ Q) X.xe s
variable (X G) in
/-- .. that makes a new list -/
def CallF (f : Value) (xs : List D) (Ψ : List D → Prop) : Prop :=
  ∀ (S : Option Addr) (M : Mu) (H : Hp) (vs : List V), (∀ b, M b → H b ≠ none) → RpA X.K G S M H vs xs → ∀ Q : VK,
    (∀ p ws ds, H p = none → RpA X.K G S M H ws ds → Ψ ds → Q (.ref p) (upd H p (.lst ws))) → ∀ (pins : List (Addr × Obj)) (s : Shared) (σ : L2.St) (us : List Value), Inv X pins σ H s → Vals vs us → wpAny (model X.prog X.w) X.A (call f us) (EP X pins σ Q) X.xe s
theorem bd_of {f : OpF} {r : R2} {x y : D} {Ψ : D → Prop} (ho : OpR X f.f r)
    (h : ∀ (S : Option Addr) (M : Mu) (H : Hp) (v w : V), (∀ b, M b → H b ≠ none) → Rp X.K G S M H v x → Rp X.K G S M H w y → ∀ Q : VK, (∀ u H' d, Same H H' → Rp X.K G S M H' u d → Ψ d → Q u H') → r v w H Q) : BinD X G f x y Ψ :=
  fun S M H v w mt rv rw Q k pins s σ a b I ra rb => ho pins s σ H v w a b Q I ra rb (h S M H v w mt rv rw Q k)
theorem ud_of {f : Value → Sem Value} {r : V → Hp → VK → Prop} {x : D} {Ψ : D → Prop} (ho : UnR X f r)
    (h : ∀ (S : Option Addr) (M : Mu) (H : Hp) (v : V), (∀ b, M b → H b ≠ none) → Rp X.K G S M H v x → ∀ Q : VK, (∀ u H' d, Same H H' → Rp X.K G S M H' u d → Ψ d → Q u H') → r v H Q) : UnD X G f x Ψ :=
  fun S M H v mt rv Q k pins s σ a I ra => ho pins s σ H v a Q I ra (h S M H v mt rv Q k)
theorem cd_of {f : Value} {r : List V → Hp → VK → Prop} {xs : List D} {Ψ : D → Prop} (ho : CallR X f r)
    (h : ∀ (S : Option Addr) (M : Mu) (H : Hp) (vs : List V), (∀ b, M b → H b ≠ none) → RpA X.K G S M H vs xs → ∀ Q : VK, (∀ u H' d, Same H H' → Rp X.K G S M H' u d → Ψ d → Q u H') → r vs H Q) : CallD X G f xs Ψ :=
  fun S M H vs mt rv Q k pins s σ us I ra => ho pins s σ H vs us Q I ra (h S M H vs mt rv Q k)
theorem cf_of {f : Value} {r : List V → Hp → VK → Prop} {xs : List D} {Ψ : List D → Prop} (ho : CallR X f r)
    (h : ∀ (S : Option Addr) (M : Mu) (H : Hp) (vs : List V), (∀ b, M b → H b ≠ none) → RpA X.K G S M H vs xs → ∀ Q : VK, (∀ p ws ds, H p = none → RpA X.K G S M H ws ds → Ψ ds → Q (.ref p) (upd H p (.lst ws))) → r vs H Q) : CallF X G f xs Ψ :=
  fun S M H vs mt rv Q k pins s σ us I ra => ho pins s σ H vs us Q I ra (h S M H vs mt rv Q k)
theorem same_upd {H : Hp} {p : Addr} {o : HO} (hp : H p = none) : Same H (upd H p o) := fun b x e => by rw [upd_ne (ne_of_none e hp)]; exact e
theorem cd_of_cf {f : Value} {xs : List D} {Ψ : D → Prop} (h : CallF X G f xs fun ds => Ψ (.lst ds)) : CallD X G f xs Ψ := fun S M H vs mt rv Q k =>
  h S M H vs mt rv Q fun p ws ds hp r w => k _ _ _ (same_upd hp) (.lst ⟨fun m => mt p m hp, upd_same⟩ (r.pre (pre_of_same (same_upd hp)))) w

/-- reading of «a then b then the operation» -/
theorem we_bin {op : Operator} {Φ : D → En → Prop} (h : WE X G a ρ fun x ρ1 => WE X G b ρ1 fun y ρ2 => BinD X G (.b op) x y fun d => Φ d ρ2) : WE X G (.BinOp a op b pos) ρ Φ := fun S H0 M0 σ H M R Q k => by
  refine mE_of (pe_op (r := fun v w H Q => ∀ (pins : List (Addr × Obj)) (s : Shared) (σ : L2.St) (a b : Value), Inv X pins σ H s → RelV v a → RelV w b → wpAny (model X.prog X.w) X.A (binaryOp op a b) (EP X pins σ Q) X.xe s)
    (fun pins s σ H x y v u Q I rx ry q => q pins s σ v u I rx ry) (pe_m X a) (pe_m X b)) ?_
  refine h S H0 M0 σ H M R _ fun v H1 M1 d1 ρ1 p1 R1 r1 w1 => ?_
  refine w1 S H0 M0 σ H1 M1 R1 _ fun u H2 M2 d2 ρ2 p2 R2 r2 w2 => ?_
  exact w2 S M2 H2 v u R2.mt (r1.pre p2) r2 Q fun z H3 d sm r q => k z H3 M2 d ρ2 ((p1.trans p2).trans (pre_of_same sm)) (R2.same sm) r q
theorem we_un {op : UnaryOp} {Φ : D → En → Prop} (h : WE X G a ρ fun x ρ1 => UnD X G (unaryOp op) x fun d => Φ d ρ1) : WE X G (.UnaryOp op a pos) ρ Φ := fun S H0 M0 σ H M R Q k => by
  refine mE_of (pe_un (r := fun v H Q => ∀ (pins : List (Addr × Obj)) (s : Shared) (σ : L2.St) (a : Value), Inv X pins σ H s → RelV v a → wpAny (model X.prog X.w) X.A (unaryOp op a) (EP X pins σ Q) X.xe s)
    (fun pins s σ H x v Q I rx q => q pins s σ v I rx) (pe_m X a)) ?_
  refine h S H0 M0 σ H M R _ fun v H1 M1 d1 ρ1 p1 R1 r1 w1 => ?_
  exact w1 S M1 H1 v R1.mt r1 Q fun z H3 d sm r q => k z H3 M1 d ρ1 (p1.trans (pre_of_same sm)) (R1.same sm) r q
theorem we_cmp {op : CmpOp} {Φ : D → En → Prop} (hm : behindInMarks op b = false) (h : WE X G a ρ fun x ρ1 => WE X G b ρ1 fun y ρ2 => BinD X G (.c op) x y fun d => Φ d ρ2) : WE X G (.Compare a [op] [b] pos) ρ Φ := fun S H0 M0 σ H M R Q k => by
  refine mE_of (pe_cmpR (r := fun v w H Q => ∀ (pins : List (Addr × Obj)) (s : Shared) (σ : L2.St) (a b : Value), Inv X pins σ H s → RelV v a → RelV w b → wpAny (model X.prog X.w) X.A (compareOp op a b) (EP X pins σ Q) X.xe s)
    (fun pins s σ H x y v u Q I rx ry q => q pins s σ v u I rx ry) (pe_m X a) (pe_m X b) hm) ?_
  refine h S H0 M0 σ H M R _ fun v H1 M1 d1 ρ1 p1 R1 r1 w1 => ?_
  refine w1 S H0 M0 σ H1 M1 R1 _ fun u H2 M2 d2 ρ2 p2 R2 r2 w2 => ?_
  exact w2 S M2 H2 v u R2.mt (r1.pre p2) r2 Q fun z H3 d sm r q => k z H3 M2 d ρ2 ((p1.trans p2).trans (pre_of_same sm)) (R2.same sm) r q
theorem wt_cmp {op : CmpOp} {Φ : Bool → En → Prop} (hm : behindInMarks op b = false) (h : WE X G a ρ fun x ρ1 => WE X G b ρ1 fun y ρ2 => BinD X G (.c op) x y fun d => ∃ t, d = .bl t ∧ Φ t ρ2) : WT X G (.Compare a [op] [b] pos) ρ Φ := fun S H0 M0 σ H M R Q k => by
  refine mT_of (pt_cmpR (r := fun v w H Q => ∀ (pins : List (Addr × Obj)) (s : Shared) (σ : L2.St) (a b : Value), Inv X pins σ H s → RelV v a → RelV w b → wpAny (model X.prog X.w) X.A (compareOp op a b) (EP X pins σ Q) X.xe s)
    (fun pins s σ H x y v u Q I rx ry q => q pins s σ v u I rx ry) (pe_m X a) (pe_m X b) hm) ?_
  refine h S H0 M0 σ H M R _ fun v H1 M1 d1 ρ1 p1 R1 r1 w1 => ?_
  refine w1 S H0 M0 σ H1 M1 R1 _ fun u H2 M2 d2 ρ2 p2 R2 r2 w2 => ?_
  refine w2 S M2 H2 v u R2.mt (r1.pre p2) r2 _ fun z H3 d sm r q => ?_
  obtain ⟨t, rfl, q⟩ := q
  cases r
  exact ⟨t, rfl, k t H3 M2 ρ2 ((p1.trans p2).trans (pre_of_same sm)) (R2.same sm) q⟩
/-- a op b op' c -/
theorem we_chain {op op' : CmpOp} {Φ : D → En → Prop} (hm : lastMarks [op, op'] [b, c] = false) (h : WE X G a ρ fun x ρ1 => WE X G b ρ1 fun y ρ2 => BinD X G (.c op) x y fun d => ∃ t, d = .bl t ∧
    if t = true then WE X G c ρ2 fun z ρ3 => BinD X G (.c op') y z fun d => Φ d ρ3 else Φ (.bl false) ρ2) : WE X G (.Compare a [op, op'] [b, c] pos) ρ Φ := fun S H0 M0 σ H M R Q k => by
  refine mE_of (pe_chain (r := fun v w H Q => ∀ (pins : List (Addr × Obj)) (s : Shared) (σ : L2.St) (a b : Value), Inv X pins σ H s → RelV v a → RelV w b → wpAny (model X.prog X.w) X.A (compareOp op a b) (EP X pins σ Q) X.xe s)
    (r' := fun v w H Q => ∀ (pins : List (Addr × Obj)) (s : Shared) (σ : L2.St) (a b : Value), Inv X pins σ H s → RelV v a → RelV w b → wpAny (model X.prog X.w) X.A (compareOp op' a b) (EP X pins σ Q) X.xe s)
    (fun pins s σ H x y v u Q I rx ry q => q pins s σ v u I rx ry) (fun pins s σ H x y v u Q I rx ry q => q pins s σ v u I rx ry) (pe_m X a) (pe_m X b) (pe_m X c) hm) ?_
  refine h S H0 M0 σ H M R _ fun v H1 M1 d1 ρ1 p1 R1 r1 w1 => ?_
  refine w1 S H0 M0 σ H1 M1 R1 _ fun u H2 M2 d2 ρ2 p2 R2 r2 w2 => ?_
  refine w2 S M2 H2 v u R2.mt (r1.pre p2) r2 _ fun z H3 d sm r q => ?_
  obtain ⟨t, rfl, q⟩ := q
  cases r
  refine ⟨t, rfl, ?_⟩
  have p3 := pre_of_same (M := M2) sm
  cases t with
  | true =>
    refine q S H0 M0 σ H3 M2 (R2.same sm) _ fun w H4 M4 d4 ρ4 p4 R4 r4 w4 => ?_
    exact w4 S M4 H4 u w R4.mt ((r2.pre p3).pre p4) r4 Q fun z H5 d sm5 r q => k z H5 M4 d ρ4 ((((p1.trans p2).trans p3).trans p4).trans (pre_of_same sm5)) (R4.same sm5) r q
  | false => exact k _ H3 M2 _ ρ2 ((p1.trans p2).trans p3) (R2.same sm) (.bl false) q
theorem wt_chain {op op' : CmpOp} {Φ : Bool → En → Prop} (hm : lastMarks [op, op'] [b, c] = false) (h : WE X G a ρ fun x ρ1 => WE X G b ρ1 fun y ρ2 => BinD X G (.c op) x y fun d => ∃ t, d = .bl t ∧
    if t = true then WE X G c ρ2 fun z ρ3 => BinD X G (.c op') y z fun d => ∃ t, d = .bl t ∧ Φ t ρ3 else Φ false ρ2) : WT X G (.Compare a [op, op'] [b, c] pos) ρ Φ := fun S H0 M0 σ H M R Q k => by
  refine mT_of (pt_chain (r := fun v w H Q => ∀ (pins : List (Addr × Obj)) (s : Shared) (σ : L2.St) (a b : Value), Inv X pins σ H s → RelV v a → RelV w b → wpAny (model X.prog X.w) X.A (compareOp op a b) (EP X pins σ Q) X.xe s)
    (r' := fun v w H Q => ∀ (pins : List (Addr × Obj)) (s : Shared) (σ : L2.St) (a b : Value), Inv X pins σ H s → RelV v a → RelV w b → wpAny (model X.prog X.w) X.A (compareOp op' a b) (EP X pins σ Q) X.xe s)
    (fun pins s σ H x y v u Q I rx ry q => q pins s σ v u I rx ry) (fun pins s σ H x y v u Q I rx ry q => q pins s σ v u I rx ry) (pe_m X a) (pe_m X b) (pe_m X c) hm) ?_
  refine h S H0 M0 σ H M R _ fun v H1 M1 d1 ρ1 p1 R1 r1 w1 => ?_
  refine w1 S H0 M0 σ H1 M1 R1 _ fun u H2 M2 d2 ρ2 p2 R2 r2 w2 => ?_
  refine w2 S M2 H2 v u R2.mt (r1.pre p2) r2 _ fun z H3 d sm r q => ?_
  obtain ⟨t, rfl, q⟩ := q
  cases r
  refine ⟨t, rfl, ?_⟩
  have p3 := pre_of_same (M := M2) sm
  cases t with
  | true =>
    refine q S H0 M0 σ H3 M2 (R2.same sm) _ fun w H4 M4 d4 ρ4 p4 R4 r4 w4 => ?_
    refine w4 S M4 H4 u w R4.mt ((r2.pre p3).pre p4) r4 _ fun z H5 d sm5 r q => ?_
    obtain ⟨t, rfl, q⟩ := q
    cases r
    exact ⟨t, rfl, k t H5 M4 ρ4 ((((p1.trans p2).trans p3).trans p4).trans (pre_of_same sm5)) (R4.same sm5) q⟩
  | false => exact ⟨false, rfl, k false H3 M2 ρ2 ((p1.trans p2).trans p3) (R2.same sm) q⟩

/-! ### tests -/
/-- a bool-valued expression as a test -/
theorem wt_val {Φ : Bool → En → Prop} (he : ∀ whole, isTrue e X.env whole = (do let v ← whole; standAt e.pos; holding [v] (truthy v))) (h : WE X G e ρ fun d ρ' => ∃ t, d = .bl t ∧ Φ t ρ') : WT X G e ρ Φ := fun S H0 M0 σ H M R Q k => by
  refine mT_of (pt_val (pe_m X e) he) (h S H0 M0 σ H M R _ fun v H' M' d ρ' p R' r w => ?_)
  obtain ⟨t, rfl, w⟩ := w
  cases r
  exact ⟨t, rfl, k t H' M' ρ' p R' w⟩
/-- truth of data -/
def D.truth : D → Option Bool
  | .non => some false
  | .bl b => some b
  | .int i => some (i != 0)
  | .tup ds => some (!ds.isEmpty)
  | .lst ds => some (!ds.isEmpty)
  | _ => none
theorem RpA.isEmpty {K G S M H vs ds} (h : RpA K G S M H vs ds) : vs.isEmpty = ds.isEmpty := by cases h <;> rfl
theorem tru_of {K G S M H v d t} (r : Rp K G S M H v d) (h : d.truth = some t) : TruV K v H t := by
  cases r with
  | non => simp [D.truth] at h; subst h; rfl
  | bl b => simp [D.truth] at h; subst h; rfl
  | int i => simp [D.truth] at h; subst h; rfl
  | str x => simp [D.truth] at h
  | lst h1 h2 => simp only [D.truth, Option.some.injEq] at h; subst h; exact .inl ⟨_, h1.sq, by rw [h2.isEmpty]⟩
  | tup h1 h2 => simp only [D.truth, Option.some.injEq] at h; subst h; exact .inr (.inl ⟨_, h1.sq, by rw [h2.isEmpty]⟩)
  | obj _ _ _ => simp [D.truth] at h
  | src _ => simp [D.truth] at h
  | ty _ => simp [D.truth] at h
  | cls _ => simp [D.truth] at h
theorem wt_tru {Φ : Bool → En → Prop} (he : ∀ whole, isTrue e X.env whole = (do let v ← whole; standAt e.pos; holding [v] (truthy v))) (h : WE X G e ρ fun d ρ' => ∃ t, d.truth = some t ∧ Φ t ρ') : WT X G e ρ Φ := fun S H0 M0 σ H M R Q k => by
  refine mT_of (pt_truth (pe_m X e) he) (h S H0 M0 σ H M R _ fun v H' M' d ρ' p R' r w => ?_)
  obtain ⟨t, ht, w⟩ := w
  exact ⟨t, tru_of r ht, k t H' M' ρ' p R' w⟩
theorem wt_not {Φ : Bool → En → Prop} (h : WT X G a ρ fun t ρ' => Φ (!t) ρ') : WT X G (.UnaryOp .Not a pos) ρ Φ := fun S H0 M0 σ H M R Q k =>
  mT_of (pt_not (pt_m X a)) (h S H0 M0 σ H M R _ fun t H' M' ρ' p R' w => k (!t) H' M' ρ' p R' w)
theorem wt_of_ww {Φ : Bool → En → Prop} (h : WW X G e ρ Φ) : WT X G e ρ Φ := fun S H0 M0 σ H M R Q k =>
  mT_of (pw_m X e).pt (h S H0 M0 σ H M R Q k)
theorem ww_and1 {Φ : Bool → En → Prop} (h : WT X G a ρ Φ) : WW X G (.BoolOp .And [a] pos) ρ Φ := fun S H0 M0 σ H M R Q k => mW_of (pw_and1 (pt_m X a)) (h S H0 M0 σ H M R Q k)
theorem ww_or1 {Φ : Bool → En → Prop} (h : WT X G a ρ Φ) : WW X G (.BoolOp .Or [a] pos) ρ Φ := fun S H0 M0 σ H M R Q k => mW_of (pw_or1 (pt_m X a)) (h S H0 M0 σ H M R Q k)
theorem ww_and {Φ : Bool → En → Prop} (h : WT X G a ρ fun t ρ1 => if t = true then WW X G (.BoolOp .And (b :: es) pos) ρ1 Φ else Φ false ρ1) : WW X G (.BoolOp .And (a :: b :: es) pos) ρ Φ := fun S H0 M0 σ H M R Q k => by
  refine mW_of (pw_and (pt_m X a) (pw_m X _)) (h S H0 M0 σ H M R _ fun t H1 M1 ρ1 p1 R1 w => ?_)
  cases t with
  | true => exact w S H0 M0 σ H1 M1 R1 Q fun t H2 M2 ρ2 p2 R2 w2 => k t H2 M2 ρ2 (p1.trans p2) R2 w2
  | false => exact k false H1 M1 ρ1 p1 R1 w
theorem ww_or {Φ : Bool → En → Prop} (h : WT X G a ρ fun t ρ1 => if t = true then Φ true ρ1 else WW X G (.BoolOp .Or (b :: es) pos) ρ1 Φ) : WW X G (.BoolOp .Or (a :: b :: es) pos) ρ Φ := fun S H0 M0 σ H M R Q k => by
  refine mW_of (pw_or (pt_m X a) (pw_m X _)) (h S H0 M0 σ H M R _ fun t H1 M1 ρ1 p1 R1 w => ?_)
  cases t with
  | false => exact w S H0 M0 σ H1 M1 R1 Q fun t H2 M2 ρ2 p2 R2 w2 => k t H2 M2 ρ2 (p1.trans p2) R2 w2
  | true => exact k true H1 M1 ρ1 p1 R1 w
/-- not, and, or as values, of bools -/
theorem we_not {Φ : D → En → Prop} (h : WE X G a ρ fun d ρ1 => ∃ t, d.truth = some t ∧ Φ (.bl (!t)) ρ1) : WE X G (.UnaryOp .Not a pos) ρ Φ := fun S H0 M0 σ H M R Q k =>
  mE_of (pe_notT (pe_m X a)) (h S H0 M0 σ H M R _ fun v H1 M1 d ρ1 p1 R1 r ⟨t, ht, w⟩ => ⟨t, tru_of r ht, k _ H1 M1 _ ρ1 p1 R1 (.bl _) w⟩)
theorem we_one {op : BoolOp} {Φ : D → En → Prop} (h : WE X G a ρ Φ) : WE X G (.BoolOp op [a] pos) ρ Φ := fun S H0 M0 σ H M R Q k => mE_of (pe_one (pe_m X a)) (h S H0 M0 σ H M R Q k)
theorem we_and {Φ : D → En → Prop} (h : WE X G a ρ fun d ρ1 => ∃ t, d.truth = some t ∧ if t = true then WE X G (.BoolOp .And (b :: es) pos) ρ1 Φ else Φ d ρ1) : WE X G (.BoolOp .And (a :: b :: es) pos) ρ Φ := fun S H0 M0 σ H M R Q k => by
  refine mE_of (pe_andT (pe_m X a) (pe_m X _)) (h S H0 M0 σ H M R _ fun v H1 M1 d ρ1 p1 R1 r w => ?_)
  obtain ⟨t, ht, w⟩ := w
  refine ⟨t, tru_of r ht, ?_⟩
  cases t with
  | true => exact w S H0 M0 σ H1 M1 R1 Q fun v H2 M2 d ρ2 p2 R2 r2 w2 => k v H2 M2 d ρ2 (p1.trans p2) R2 r2 w2
  | false => exact k v H1 M1 d ρ1 p1 R1 r w
theorem we_or {Φ : D → En → Prop} (h : WE X G a ρ fun d ρ1 => ∃ t, d.truth = some t ∧ if t = true then Φ d ρ1 else WE X G (.BoolOp .Or (b :: es) pos) ρ1 Φ) : WE X G (.BoolOp .Or (a :: b :: es) pos) ρ Φ := fun S H0 M0 σ H M R Q k => by
  refine mE_of (pe_orT (pe_m X a) (pe_m X _)) (h S H0 M0 σ H M R _ fun v H1 M1 d ρ1 p1 R1 r w => ?_)
  obtain ⟨t, ht, w⟩ := w
  refine ⟨t, tru_of r ht, ?_⟩
  cases t with
  | false => exact w S H0 M0 σ H1 M1 R1 Q fun v H2 M2 d ρ2 p2 R2 r2 w2 => k v H2 M2 d ρ2 (p1.trans p2) R2 r2 w2
  | true => exact k v H1 M1 d ρ1 p1 R1 r w
theorem we_ite {Φ : D → En → Prop} (h : WT X G c ρ fun t ρ1 => if t = true then WE X G a ρ1 Φ else WE X G b ρ1 Φ) : WE X G (.IfExp c a b pos) ρ Φ := fun S H0 M0 σ H M R Q k => by
  refine mE_of (pe_ifExp (pt_m X c) (pe_m X a) (pe_m X b)) (h S H0 M0 σ H M R _ fun t H1 M1 ρ1 p1 R1 w => ?_)
  cases t with
  | true => exact w S H0 M0 σ H1 M1 R1 Q fun v H2 M2 d ρ2 p2 R2 r2 w2 => k v H2 M2 d ρ2 (p1.trans p2) R2 r2 w2
  | false => exact w S H0 M0 σ H1 M1 R1 Q fun v H2 M2 d ρ2 p2 R2 r2 w2 => k v H2 M2 d ρ2 (p1.trans p2) R2 r2 w2

/-! ### argument lists, displays -/
theorem wa_nil {Φ : List D → En → Prop} (h : Φ [] ρ) : WA X G [] ρ Φ := fun S H0 M0 σ H M R Q k => mA_of pa_nil (k [] H M [] ρ (Pre.refl _ _) R .nil h)
theorem wa_cons {Φ : List D → En → Prop} (hs : starEach (e :: es) X.env = (false, eval e X.env) :: starEach es X.env) (h : WE X G e ρ fun d ρ1 => WA X G es ρ1 fun ds ρ2 => Φ (d :: ds) ρ2) : WA X G (e :: es) ρ Φ := fun S H0 M0 σ H M R Q k => by
  refine mA_of (pa_cons (pe_m X e) (pa_m X es) hs) (h S H0 M0 σ H M R _ fun v H1 M1 d ρ1 p1 R1 r1 w1 => ?_)
  exact w1 S H0 M0 σ H1 M1 R1 _ fun vs H2 M2 ds ρ2 p2 R2 r2 w2 => k _ H2 M2 _ ρ2 (p1.trans p2) R2 (.cons (r1.pre p2) r2) w2
/-- the items of a sequence -/
def SeqD (d : D) (ds : List D) : Prop := d = .lst ds ∨ d = .tup ds
theorem wa_star {p' : Pos} {Φ : List D → En → Prop} (hs : starEach (.Starred e p' :: es) X.env = (true, eval e X.env) :: starEach es X.env) (h : WE X G e ρ fun d ρ1 => ∃ ds, SeqD d ds ∧ WA X G es ρ1 fun ds' ρ2 => Φ (ds ++ ds') ρ2) : WA X G (.Starred e p' :: es) ρ Φ := fun S H0 M0 σ H M R Q k => by
  refine mA_of (StX.pa_star (pe_m X e) (pa_m X es) hs) (h S H0 M0 σ H M R _ fun v H1 M1 d ρ1 p1 R1 r1 w1 => ?_)
  obtain ⟨ds, hd, w1⟩ := w1
  have key : ∃ a xs, v = .ref a ∧ (SqT X.K H1 a xs ∨ SqL X.K H1 a xs) ∧ RpA X.K G S M1 H1 xs ds := by
    rcases hd with rfl | rfl
    · cases r1 with
      | lst h1 h2 => exact ⟨_, _, rfl, .inr h1.sq, h2⟩
    · cases r1 with
      | tup h1 h2 => exact ⟨_, _, rfl, .inl h1.sq, h2⟩
  obtain ⟨a, xs, rfl, hq, ra⟩ := key
  refine ⟨a, xs, rfl, hq, ?_⟩
  exact w1 S H0 M0 σ H1 M1 R1 _ fun vs H2 M2 ds ρ2 p2 R2 r2 w2 => k _ H2 M2 _ ρ2 (p1.trans p2) R2 ((ra.pre p2).append r2) w2
theorem we_tup {k0} {Φ : D → En → Prop} (h : WA X G es ρ fun ds ρ1 => ds.length ≤ sizeLine ∧ Φ (.tup ds) ρ1) : WE X G (.Tuple es k0 pos) ρ Φ := fun S H0 M0 σ H M R Q k => by
  refine mE_of (pe_tup (pa_m X es)) (h S H0 M0 σ H M R _ fun vs H1 M1 ds ρ1 p1 R1 r1 w1 => ⟨by rw [r1.length]; exact w1.1, fun p hp => ?_⟩)
  obtain ⟨R2, p2, n⟩ := R1.laid (o := .tup vs) hp
  exact k _ _ M1 _ ρ1 (p1.trans p2) R2 (.tup (.inl ⟨n, upd_same⟩) (r1.pre p2)) w1.2
theorem wf_lst {Φ : List D → En → Prop} (h : WA X G es ρ fun ds ρ1 => ds.length ≤ sizeLine ∧ Φ ds ρ1) : WF X G (.List es pos) ρ Φ := fun S H0 M0 σ H M R Q k => by
  refine mE_of (pe_lst (pa_m X es)) (h S H0 M0 σ H M R _ fun vs H1 M1 ds ρ1 p1 R1 r1 w1 => ⟨by rw [r1.length]; exact w1.1, fun p hp => ?_⟩)
  exact k p vs H1 M1 ds ρ1 p1 R1 hp r1 w1.2

/-! ### calls of built-ins -/
theorem call_as {f : Value} : CallR X f (fun vs H Q => ∀ (pins : List (Addr × Obj)) (s : Shared) (σ : L2.St) (us : List Value), Inv X pins σ H s → Vals vs us → wpAny (model X.prog X.w) X.A (call f us) (EP X pins σ Q) X.xe s) :=
  fun pins s σ H xs us Q I r q => q pins s σ us I r
theorem we_callB {id : String} {Φ : D → En → Prop} (hg : Gl X x) (hm : X.mg x = none) (hv : bootBuiltins x = some (.builtin id)) (hn : x ≠ "__name__") (hdb : (x == ("__debug__" : Str)) = false)
    (he : starEach (e :: es) X.env = (false, eval e X.env) :: starEach es X.env) (hpl : (backTo pos (starEach es X.env)).any (·.1) = false)
    (h : WA X G (e :: es) ρ fun ds ρ1 => CallD X G (.builtin id) ds fun d => Φ d ρ1) : WE X G (.Call (.Name x p) (e :: es) [] pos) ρ Φ := fun S H0 M0 σ H M R Q k => by
  refine mE_of (pe_callB call_as hg hm hv (pa_m X _) hn hdb he hpl) (h S H0 M0 σ H M R _ fun vs H1 M1 ds ρ1 p1 R1 r1 w1 => ?_)
  exact w1 S M1 H1 vs R1.mt r1 Q fun u H2 d sm r q => k u H2 M1 d ρ1 (p1.trans (pre_of_same sm)) (R1.same sm) r q
theorem we_callTy {T : String} {Φ : D → En → Prop} (hg : Gl X x) (hm : X.mg x = none) (hv : bootBuiltins x = some (.type T)) (hn : x ≠ "__name__") (hdb : (x == ("__debug__" : Str)) = false)
    (he : starEach (e :: es) X.env = (false, eval e X.env) :: starEach es X.env) (hpl : (backTo pos (starEach es X.env)).any (·.1) = false)
    (h : WA X G (e :: es) ρ fun ds ρ1 => CallD X G (.type T) ds fun d => Φ d ρ1) : WE X G (.Call (.Name x p) (e :: es) [] pos) ρ Φ := fun S H0 M0 σ H M R Q k => by
  refine mE_of (pe_callTy call_as hg hm hv (pa_m X _) hn hdb he hpl) (h S H0 M0 σ H M R _ fun vs H1 M1 ds ρ1 p1 R1 r1 w1 => ?_)
  exact w1 S M1 H1 vs R1.mt r1 Q fun u H2 d sm r q => k u H2 M1 d ρ1 (p1.trans (pre_of_same sm)) (R1.same sm) r q
theorem wf_callB {id : String} {Φ : List D → En → Prop} (hg : Gl X x) (hm : X.mg x = none) (hv : bootBuiltins x = some (.builtin id)) (hn : x ≠ "__name__") (hdb : (x == ("__debug__" : Str)) = false)
    (he : starEach (e :: es) X.env = (false, eval e X.env) :: starEach es X.env) (hpl : (backTo pos (starEach es X.env)).any (·.1) = false)
    (h : WA X G (e :: es) ρ fun ds ρ1 => CallF X G (.builtin id) ds fun d => Φ d ρ1) : WF X G (.Call (.Name x p) (e :: es) [] pos) ρ Φ := fun S H0 M0 σ H M R Q k => by
  refine mE_of (pe_callB call_as hg hm hv (pa_m X _) hn hdb he hpl) (h S H0 M0 σ H M R _ fun vs H1 M1 ds ρ1 p1 R1 r1 w1 => ?_)
  exact w1 S M1 H1 vs R1.mt r1 Q fun p ws ds hp r q => k p ws H1 M1 ds ρ1 p1 R1 hp r q
theorem wf_callTy {T : String} {Φ : List D → En → Prop} (hg : Gl X x) (hm : X.mg x = none) (hv : bootBuiltins x = some (.type T)) (hn : x ≠ "__name__") (hdb : (x == ("__debug__" : Str)) = false)
    (he : starEach (e :: es) X.env = (false, eval e X.env) :: starEach es X.env) (hpl : (backTo pos (starEach es X.env)).any (·.1) = false)
    (h : WA X G (e :: es) ρ fun ds ρ1 => CallF X G (.type T) ds fun d => Φ d ρ1) : WF X G (.Call (.Name x p) (e :: es) [] pos) ρ Φ := fun S H0 M0 σ H M R Q k => by
  refine mE_of (pe_callTy call_as hg hm hv (pa_m X _) hn hdb he hpl) (h S H0 M0 σ H M R _ fun vs H1 M1 ds ρ1 p1 R1 r1 w1 => ?_)
  exact w1 S M1 H1 vs R1.mt r1 Q fun p ws ds hp r q => k p ws H1 M1 ds ρ1 p1 R1 hp r q
end
end DL

namespace DL
open PySem PySem.Spec PyProof.Rows L2

section
variable {X : Cx} {G : Cls} {Ψ : D → Prop} {i j : Int} {xs ys ds es : List D}
variable {K : PySem.W.Frag} {S : Option Addr} {M : Mu} {H : Hp} {v w : V}
theorem Rp.int_ (h : Rp K G S M H v (.int i)) : v = .int i := by cases h; rfl
theorem Rp.bl_ {b} (h : Rp K G S M H v (.bl b)) : v = .bl b := by cases h; rfl
theorem Rp.str_ {b} (h : Rp K G S M H v (.str b)) : v = .str b := by cases h; rfl
theorem Rp.non_ (h : Rp K G S M H v .non) : v = .non := by cases h; rfl
theorem Rp.tup_ (h : Rp K G S M H v (.tup ds)) : ∃ a xs, v = .ref a ∧ TsM K M H a xs ∧ RpA K G S M H xs ds := by cases h with | tup h1 h2 => exact ⟨_, _, rfl, h1, h2⟩
theorem Rp.lst_ (h : Rp K G S M H v (.lst ds)) : ∃ a xs, v = .ref a ∧ LsM K M H a xs ∧ RpA K G S M H xs ds := by cases h with | lst h1 h2 => exact ⟨_, _, rfl, h1, h2⟩
theorem Rp.tupN (mt : ∀ b, M b → H b ≠ none) {p : Addr} {vs : List V} (hp : H p = none) (r : RpA K G S M H vs ds) : Rp K G S M (upd H p (.tup vs)) (.ref p) (.tup ds) :=
  .tup (.inl ⟨fun m => mt p m hp, upd_same⟩) (r.pre (pre_of_same (same_upd hp)))
theorem Rp.lstN (mt : ∀ b, M b → H b ≠ none) {p : Addr} {vs : List V} (hp : H p = none) (r : RpA K G S M H vs ds) : Rp K G S M (upd H p (.lst vs)) (.ref p) (.lst ds) :=
  .lst ⟨fun m => mt p m hp, upd_same⟩ (r.pre (pre_of_same (same_upd hp)))

/-! ### ints -/
theorem bd_intI0 {f : OpF} {g : Int → Int → Int} (ho : OpR X f.f (rI0 fun i j => .int (g i j))) (h : Ψ (.int (g i j))) : BinD X G f (.int i) (.int j) Ψ :=
  bd_of ho fun S M H v w mt r1 r2 Q k => ⟨i, j, r1.int_, r2.int_, k _ _ _ (Same.refl _) (.int _) h⟩
theorem bd_intI {f : OpF} {C : Int → Int → Prop} {g : Int → Int → Int} (ho : OpR X f.f (rI C fun i j => .int (g i j))) (hc : C i j) (h : Ψ (.int (g i j))) : BinD X G f (.int i) (.int j) Ψ :=
  bd_of ho fun S M H v w mt r1 r2 Q k => ⟨i, j, r1.int_, r2.int_, hc, k _ _ _ (Same.refl _) (.int _) h⟩
theorem bd_intB {f : OpF} {g : Int → Int → Bool} (ho : OpR X f.f (rI0 fun i j => .bl (g i j))) (h : Ψ (.bl (g i j))) : BinD X G f (.int i) (.int j) Ψ :=
  bd_of ho fun S M H v w mt r1 r2 Q k => ⟨i, j, r1.int_, r2.int_, k _ _ _ (Same.refl _) (.bl _) h⟩
theorem bd_add (h : Ψ (.int (i + j))) : BinD X G (.b .Add) (.int i) (.int j) Ψ := bd_intI0 op_add h
theorem bd_sub (h : Ψ (.int (i - j))) : BinD X G (.b .Sub) (.int i) (.int j) Ψ := bd_intI0 op_sub h
/-- a product: a factor within 64 bits -/
theorem bd_mul (hc : CMul i j) (h : Ψ (.int (i * j))) : BinD X G (.b .Mult) (.int i) (.int j) Ψ := bd_intI op_mul hc h
/-- by a positive divisor below 2^9000 -/
theorem bd_fdiv (hc : CDivW i j) (h : Ψ (.int (i / j))) : BinD X G (.b .FloorDiv) (.int i) (.int j) Ψ := bd_intI op_fdivW hc h
theorem bd_mod (hc : 0 < j) (h : Ψ (.int (i % j))) : BinD X G (.b .Mod) (.int i) (.int j) Ψ := bd_intI op_mod hc h
theorem bd_pow (hc : CPow i j) (h : Ψ (.int (i ^ j.toNat))) : BinD X G (.b .Pow) (.int i) (.int j) Ψ := bd_intI op_pow hc h
theorem bd_shl (hc : CPow i j) (h : Ψ (.int (i * 2 ^ j.toNat))) : BinD X G (.b .LShift) (.int i) (.int j) Ψ := bd_intI op_shl hc h
theorem bd_shr (hc : 0 ≤ j) (h : Ψ (.int (i / 2 ^ j.toNat))) : BinD X G (.b .RShift) (.int i) (.int j) Ψ := bd_intI op_shr hc h
theorem bd_andI (h : Ψ (.int (Builtin.bitAnd i j))) : BinD X G (.b .BitAnd) (.int i) (.int j) Ψ := bd_intI0 op_and h
theorem bd_orI (h : Ψ (.int (Builtin.bitOr i j))) : BinD X G (.b .BitOr) (.int i) (.int j) Ψ := bd_intI0 op_or h
theorem bd_xorI (h : Ψ (.int (Builtin.bitXor i j))) : BinD X G (.b .BitXor) (.int i) (.int j) Ψ := bd_intI0 op_xor h
theorem ud_neg (h : Ψ (.int (-i))) : UnD X G (unaryOp .USub) (.int i) Ψ := ud_of un_neg fun S M H v mt r1 Q k => ⟨i, r1.int_, k _ _ _ (Same.refl _) (.int _) h⟩
theorem bd_lt (h : Ψ (.bl (decide (i < j)))) : BinD X G (.c .Lt) (.int i) (.int j) Ψ := bd_intB op_lt h
theorem bd_le (h : Ψ (.bl (decide (i ≤ j)))) : BinD X G (.c .LtE) (.int i) (.int j) Ψ := bd_intB op_le h
theorem bd_gt (h : Ψ (.bl (decide (j < i)))) : BinD X G (.c .Gt) (.int i) (.int j) Ψ := bd_intB op_gt h
theorem bd_ge (h : Ψ (.bl (decide (j ≤ i)))) : BinD X G (.c .GtE) (.int i) (.int j) Ψ := bd_intB op_ge h
theorem bd_eqI (h : Ψ (.bl (decide (i = j)))) : BinD X G (.c .Eq) (.int i) (.int j) Ψ :=
  bd_of op_eq fun S M H v w mt r1 r2 Q k => by
    rw [r1.int_, r2.int_]
    refine ⟨rfl, ?_⟩
    have e : decide (V.int i = V.int j) = decide (i = j) := by by_cases z : i = j <;> simp [z]
    rw [e]
    exact k _ _ _ (Same.refl _) (.bl _) h
theorem bd_neI (h : Ψ (.bl (decide (i ≠ j)))) : BinD X G (.c .NotEq) (.int i) (.int j) Ψ :=
  bd_of op_ne fun S M H v w mt r1 r2 Q k => by
    rw [r1.int_, r2.int_]
    refine ⟨rfl, ?_⟩
    have e : (!decide (V.int i = V.int j)) = decide (i ≠ j) := by by_cases z : i = j <;> simp [z]
    rw [e]
    exact k _ _ _ (Same.refl _) (.bl _) h
theorem bd_eqB {b c : Bool} (h : Ψ (.bl (b == c))) : BinD X G (.c .Eq) (.bl b) (.bl c) Ψ :=
  bd_of op_eq fun S M H v w mt r1 r2 Q k => by
    rw [r1.bl_, r2.bl_]
    refine ⟨rfl, ?_⟩
    rw [dec_bl]
    exact k _ _ _ (Same.refl _) (.bl _) h
theorem bd_neB {b c : Bool} (h : Ψ (.bl (b != c))) : BinD X G (.c .NotEq) (.bl b) (.bl c) Ψ :=
  bd_of op_ne fun S M H v w mt r1 r2 Q k => by
    rw [r1.bl_, r2.bl_]
    refine ⟨rfl, ?_⟩
    rw [dec_bl]
    exact k _ _ _ (Same.refl _) (.bl _) h
theorem bd_eqS {b c : Str} (h : Ψ (.bl (decide (b = c)))) : BinD X G (.c .Eq) (.str b) (.str c) Ψ :=
  bd_of op_eq fun S M H v w mt r1 r2 Q k => by
    rw [r1.str_, r2.str_]
    refine ⟨rfl, ?_⟩
    have e : decide (V.str b = V.str c) = decide (b = c) := by by_cases z : b = c <;> simp [z]
    rw [e]
    exact k _ _ _ (Same.refl _) (.bl _) h
theorem bd_neS {b c : Str} (h : Ψ (.bl (decide (b ≠ c)))) : BinD X G (.c .NotEq) (.str b) (.str c) Ψ :=
  bd_of op_ne fun S M H v w mt r1 r2 Q k => by
    rw [r1.str_, r2.str_]
    refine ⟨rfl, ?_⟩
    have e : (!decide (V.str b = V.str c)) = decide (b ≠ c) := by by_cases z : b = c <;> simp [z]
    rw [e]
    exact k _ _ _ (Same.refl _) (.bl _) h

/-! ### identity -/
def D.isNon : D → Bool
  | .non => true
  | _ => false
theorem Rp.isNon {d} (r : Rp K G S M H v d) : decide (v = .non) = d.isNon := by cases r <;> rfl
theorem bd_isN {d} (h : Ψ (.bl d.isNon)) : BinD X G (.c .Is) d .non Ψ := bd_of op_isN fun S M H v w mt r1 r2 Q k => ⟨r2.non_, by rw [r1.isNon]; exact k _ _ _ (Same.refl _) (.bl _) h⟩
theorem bd_notN {d} (h : Ψ (.bl (!d.isNon))) : BinD X G (.c .IsNot) d .non Ψ := bd_of op_notN fun S M H v w mt r1 r2 Q k => ⟨r2.non_, by rw [r1.isNon]; exact k _ _ _ (Same.refl _) (.bl _) h⟩
theorem bd_isB {b c : Bool} (h : Ψ (.bl (b == c))) : BinD X G (.c .Is) (.bl b) (.bl c) Ψ := bd_of op_is_bl fun S M H v w mt r1 r2 Q k => ⟨b, c, r1.bl_, r2.bl_, by
  rw [← Bool.beq_eq_decide_eq]; exact k _ _ _ (Same.refl _) (.bl _) h⟩
theorem bd_notB {b c : Bool} (h : Ψ (.bl (b != c))) : BinD X G (.c .IsNot) (.bl b) (.bl c) Ψ := bd_of op_isnot_bl fun S M H v w mt r1 r2 Q k => ⟨b, c, r1.bl_, r2.bl_, by
  rw [← Bool.beq_eq_decide_eq]; exact k _ _ _ (Same.refl _) (.bl _) h⟩
/-- None is True -/
theorem bd_isNB {c : Bool} (h : Ψ (.bl false)) : BinD X G (.c .Is) .non (.bl c) Ψ := fun S M H v w mt r1 r2 Q k pins s σ a b I ra rb => by
  rw [r1.non_] at ra; rw [r2.bl_] at rb
  cases (show a = Value.none from ra); cases (show b = Value.bool c from rb)
  exact wpAny_is_other rfl (fun z => nomatch z) ⟨.bl false, H, I, rfl, k _ _ _ (Same.refl _) (.bl _) h⟩
theorem bd_notNB {c : Bool} (h : Ψ (.bl true)) : BinD X G (.c .IsNot) .non (.bl c) Ψ := fun S M H v w mt r1 r2 Q k pins s σ a b I ra rb => by
  rw [r1.non_] at ra; rw [r2.bl_] at rb
  cases (show a = Value.none from ra); cases (show b = Value.bool c from rb)
  exact wpAny_isNot_other rfl (fun z => nomatch z) ⟨.bl true, H, I, rfl, k _ _ _ (Same.refl _) (.bl _) h⟩

/-! ### equality of data -/
mutual
def D.py : D → PyData
  | .non => .none
  | .bl b => .bool b
  | .int i => .int i
  | .str x => .str x
  | .tup ds => .tuple (D.pyA ds)
  | .lst ds => .list (D.pyA ds)
  | .obj _ _ => .dict []
  | .src => .dict []
  | .ty _ => .dict []
  | .cls _ => .dict []
def D.pyA : List D → List PyData
  | [] => []
  | d :: ds => D.py d :: D.pyA ds
end
theorem TsM.sq' {a zs} (h : TsM K M H a zs) : SqT K H a zs := h.sq
mutual
theorem Rp.dp : ∀ {v d}, Rp K G S M H v d → (D.py d).canLay0 = true → Dp K H v (D.py d)
  | _, _, .non, _ => by rw [D.py]; exact .non
  | _, _, .bl b, _ => by rw [D.py]; exact .bl b
  | _, _, .int i, _ => by rw [D.py]; exact .int i
  | _, _, .str x, _ => by rw [D.py]; exact .str x
  | _, _, .lst h a, c => by
    rw [D.py, PyData.canLay0] at c
    rw [D.py]; exact .lst h.sq (RpA.dp a c)
  | _, _, .tup h a, c => by
    rw [D.py, PyData.canLay0] at c
    rw [D.py]; exact .tup h.sq (RpA.dp a c)
  | _, _, .obj _ _ _, c => by rw [D.py, PyData.canLay0] at c; cases c
  | _, _, .src _, c => by rw [D.py, PyData.canLay0] at c; cases c
  | _, _, .ty _, c => by rw [D.py, PyData.canLay0] at c; cases c
  | _, _, .cls _, c => by rw [D.py, PyData.canLay0] at c; cases c
theorem RpA.dp : ∀ {vs ds}, RpA K G S M H vs ds → PyData.canLayAll0 (D.pyA ds) = true → DpAll K H vs (D.pyA ds)
  | _, _, .nil, _ => by rw [D.pyA]; exact .nil
  | _, _, .cons h a, c => by
    rw [D.pyA, PyData.canLayAll0, Bool.and_eq_true] at c
    rw [D.pyA]; exact .cons (Rp.dp h c.1) (RpA.dp a c.2)
end
/-- data that == serves: no object within, not deep, texts of plain signs -/
def D.ok (d : D) : Bool := SeqAt.shaped d.py
def D.eqb (x y : D) : Bool := PyData.eqv x.py y.py
theorem D.ok_lay {d : D} (h : d.ok = true) : d.py.canLay0 = true := SeqAt.canLay_of_shaped h
theorem bd_eq {x y : D} (hu : X.A.units + 64 < cLine) (hx : x.ok = true) (hy : y.ok = true) (h : Ψ (.bl (x.eqb y))) : BinD X G (.c .Eq) x y Ψ :=
  bd_of (op_eqD hu) fun S M H v w mt r1 r2 Q k => ⟨_, _, r1.dp (D.ok_lay hx), r2.dp (D.ok_lay hy), hx, hy, k _ _ _ (Same.refl _) (.bl _) h⟩
theorem bd_ne {x y : D} (hu : X.A.units + 64 < cLine) (hx : x.ok = true) (hy : y.ok = true) (h : Ψ (.bl (!x.eqb y))) : BinD X G (.c .NotEq) x y Ψ :=
  bd_of (op_neD hu) fun S M H v w mt r1 r2 Q k => ⟨_, _, r1.dp (D.ok_lay hx), r2.dp (D.ok_lay hy), hx, hy, k _ _ _ (Same.refl _) (.bl _) h⟩
theorem pyA_any (x : D) : ∀ ds : List D, ((D.pyA ds).any fun z => PyData.eqv z x.py) = ds.any fun z => z.eqb x
  | [] => by rw [D.pyA]; rfl
  | d :: ds => by rw [D.pyA, List.any_cons, List.any_cons, pyA_any x ds]; rfl
theorem bd_inL {x : D} (hu : X.A.units + 65 < cLine) (hx : x.ok = true) (hy : (D.lst ds).ok = true) (h : Ψ (.bl (ds.any fun z => z.eqb x))) : BinD X G (.c .In) x (.lst ds) Ψ :=
  bd_of (op_inD hu) fun S M H v w mt r1 r2 Q k => by
    have q := r2.dp (D.ok_lay hy)
    rw [D.py] at q
    have s : SeqAt.shaped (.list (D.pyA ds)) = true := by unfold D.ok at hy; rw [D.py] at hy; exact hy
    refine ⟨_, _, r1.dp (D.ok_lay hx), q, hx, s, ?_⟩
    rw [pyA_any]
    exact k _ _ _ (Same.refl _) (.bl _) h
theorem bd_notInL {x : D} (hu : X.A.units + 65 < cLine) (hx : x.ok = true) (hy : (D.lst ds).ok = true) (h : Ψ (.bl (!ds.any fun z => z.eqb x))) : BinD X G (.c .NotIn) x (.lst ds) Ψ :=
  bd_of (op_notInD hu) fun S M H v w mt r1 r2 Q k => by
    have q := r2.dp (D.ok_lay hy)
    rw [D.py] at q
    have s : SeqAt.shaped (.list (D.pyA ds)) = true := by unfold D.ok at hy; rw [D.py] at hy; exact hy
    refine ⟨_, _, r1.dp (D.ok_lay hx), q, hx, s, ?_⟩
    rw [pyA_any]
    exact k _ _ _ (Same.refl _) (.bl _) h
/-- ints: x in a list or tuple of ints -/
theorem rpA_ints : ∀ {ns : List Int} {vs : List V}, RpA K G S M H vs (ns.map D.int) → vs = ns.map V.int
  | [], _, h => by cases h; rfl
  | n :: ns, _, h => by
    cases h with
    | cons h1 h2 => rw [h1.int_, rpA_ints h2]; rfl
theorem rpA_bls : ∀ {ns : List Bool} {vs : List V}, RpA K G S M H vs (ns.map D.bl) → vs = ns.map V.bl
  | [], _, h => by cases h; rfl
  | n :: ns, _, h => by
    cases h with
    | cons h1 h2 => rw [h1.bl_, rpA_bls h2]; rfl
theorem rpA_of_ints : ∀ ns : List Int, RpA K G S M H (ns.map V.int) (ns.map D.int)
  | [] => .nil
  | n :: ns => .cons (.int n) (rpA_of_ints ns)
theorem inV_ints (n : Int) : ∀ ns : List Int, inV (.int n) (ns.map V.int) = decide (n ∈ ns)
  | [] => rfl
  | m :: ns => by
    have ih := inV_ints n ns
    unfold inV at ih ⊢
    rw [List.map_cons, List.any_cons, ih]
    have e : eqV (.int m) (.int n) = decide (m = n) := by
      unfold eqV
      by_cases z : m = n <;> simp [z]
    rw [e]
    by_cases z : m = n
    · subst z; simp
    · have z' : n ≠ m := fun q => z q.symm
      simp [z, z']
theorem all_flat_ints : ∀ ns : List Int, (ns.map V.int).all flatV = true
  | [] => rfl
  | m :: ns => by rw [List.map_cons, List.all_cons, all_flat_ints ns]; rfl
theorem bd_inI {ns : List Int} {d : D} (hd : SeqD d (ns.map D.int)) (h : Ψ (.bl (decide (i ∈ ns)))) : BinD X G (.c .In) (.int i) d Ψ :=
  bd_of op_in_seq fun S M H v w mt r1 r2 Q k => by
    have q : ∃ p, w = .ref p ∧ (SqL X.K H p (ns.map V.int) ∨ SqT X.K H p (ns.map V.int)) := by
      rcases hd with rfl | rfl
      · obtain ⟨a, xs, e, h1, h2⟩ := r2.lst_; rw [rpA_ints h2] at h1; exact ⟨a, e, .inl h1.sq⟩
      · obtain ⟨a, xs, e, h1, h2⟩ := r2.tup_; rw [rpA_ints h2] at h1; exact ⟨a, e, .inr h1.sq⟩
    obtain ⟨p, e, q⟩ := q
    rw [r1.int_]
    refine ⟨p, _, e, q, rfl, all_flat_ints ns, ?_⟩
    rw [inV_ints]
    exact k _ _ _ (Same.refl _) (.bl _) h
theorem bd_notInI {ns : List Int} {d : D} (hd : SeqD d (ns.map D.int)) (h : Ψ (.bl (!decide (i ∈ ns)))) : BinD X G (.c .NotIn) (.int i) d Ψ :=
  bd_of op_notIn_seq fun S M H v w mt r1 r2 Q k => by
    have q : ∃ p, w = .ref p ∧ (SqL X.K H p (ns.map V.int) ∨ SqT X.K H p (ns.map V.int)) := by
      rcases hd with rfl | rfl
      · obtain ⟨a, xs, e, h1, h2⟩ := r2.lst_; rw [rpA_ints h2] at h1; exact ⟨a, e, .inl h1.sq⟩
      · obtain ⟨a, xs, e, h1, h2⟩ := r2.tup_; rw [rpA_ints h2] at h1; exact ⟨a, e, .inr h1.sq⟩
    obtain ⟨p, e, q⟩ := q
    rw [r1.int_]
    refine ⟨p, _, e, q, rfl, all_flat_ints ns, ?_⟩
    rw [inV_ints]
    exact k _ _ _ (Same.refl _) (.bl _) h
/-- a bool in (True, False) -/
theorem bd_notInBB {b : Bool} (h : Ψ (.bl false)) : BinD X G (.c .NotIn) (.bl b) (.tup [.bl true, .bl false]) Ψ :=
  bd_of op_notIn_seq fun S M H v w mt r1 r2 Q k => by
    obtain ⟨a, xs, e, h1, h2⟩ := r2.tup_
    obtain ⟨u1, u2, rfl, g1, g2⟩ := h2.inv2
    rw [g1.bl_, g2.bl_] at h1
    rw [r1.bl_]
    refine ⟨a, _, e, .inr h1.sq, rfl, rfl, ?_⟩
    have z : (!inV (.bl b) [.bl true, .bl false]) = false := by cases b <;> rfl
    show Q (.bl (!inV (.bl b) [.bl true, .bl false])) H
    rw [z]
    exact k _ _ _ (Same.refl _) (.bl _) h

/-! ### sequences -/
theorem bd_addT (hz : ds.length + es.length ≤ sizeLine) (h : Ψ (.tup (ds ++ es))) : BinD X G (.b .Add) (.tup ds) (.tup es) Ψ :=
  bd_of op_catA fun S M H v w mt r1 r2 Q k => by
    obtain ⟨a, xs, e1, h1, g1⟩ := r1.tup_
    obtain ⟨b, ys, e2, h2, g2⟩ := r2.tup_
    refine ⟨a, b, xs, ys, e1, e2, h1.sq, h2.sq, by rw [g1.length, g2.length]; exact hz, fun z => ?_, fun _ z => ?_, fun _ _ p hp => ?_⟩
    · subst z
      cases g1
      rw [← e2]
      exact k _ _ _ (Same.refl _) r2 h
    · subst z
      cases g2
      rw [← e1]
      rw [List.append_nil] at h
      exact k _ _ _ (Same.refl _) r1 h
    · exact k _ _ _ (same_upd hp) (Rp.tupN mt hp (g1.append g2)) h
theorem bd_addL (hz : ds.length + es.length ≤ sizeLine) (h : Ψ (.lst (ds ++ es))) : BinD X G (.b .Add) (.lst ds) (.lst es) Ψ :=
  bd_of op_cat fun S M H v w mt r1 r2 Q k => by
    obtain ⟨p, xs, e1, h1, g1⟩ := r1.lst_
    obtain ⟨q, ys, e2, h2, g2⟩ := r2.lst_
    exact ⟨p, q, xs, ys, e1, e2, h1.2, h2.2, by rw [g1.length, g2.length]; exact hz, fun p hp => k _ _ _ (same_upd hp) (Rp.lstN mt hp (g1.append g2)) h⟩
/-- .. a new list -/
def BinF (X : Cx) (G : Cls) (f : OpF) (x y : D) (Ψ : List D → Prop) : Prop :=
  ∀ (S : Option Addr) (M : Mu) (H : Hp) (v w : V), (∀ b, M b → H b ≠ none) → Rp X.K G S M H v x → Rp X.K G S M H w y → ∀ Q : VK,
    (∀ p ws ds, H p = none → RpA X.K G S M H ws ds → Ψ ds → Q (.ref p) (upd H p (.lst ws))) → ∀ (pins : List (Addr × Obj)) (s : Shared) (σ : L2.St) (a b : Value), Inv X pins σ H s → RelV v a → RelV w b → wpAny (model X.prog X.w) X.A (f.f a b) (EP X pins σ Q) X.xe s
theorem bf_addL {Ψ : List D → Prop} (hz : ds.length + es.length ≤ sizeLine) (h : Ψ (ds ++ es)) : BinF X G (.b .Add) (.lst ds) (.lst es) Ψ := fun S M H v w mt r1 r2 Q k pins s σ a b I ra rb => by
  obtain ⟨p, xs, e1, h1, g1⟩ := r1.lst_
  obtain ⟨q, ys, e2, h2, g2⟩ := r2.lst_
  exact op_cat pins s σ H v w a b Q I ra rb ⟨p, q, xs, ys, e1, e2, h1.2, h2.2, by rw [g1.length, g2.length]; exact hz, fun p hp => k p _ _ hp (g1.append g2) h⟩
theorem wf_bin {ρ : En} {a b : Expr} {pos : Pos} {op : Operator} {Φ : List D → En → Prop} (h : WE X G a ρ fun x ρ1 => WE X G b ρ1 fun y ρ2 => BinF X G (.b op) x y fun d => Φ d ρ2) : WF X G (.BinOp a op b pos) ρ Φ := fun S H0 M0 σ H M R Q k => by
  refine mE_of (pe_op (r := fun v w H Q => ∀ (pins : List (Addr × Obj)) (s : Shared) (σ : L2.St) (a b : Value), Inv X pins σ H s → RelV v a → RelV w b → wpAny (model X.prog X.w) X.A (binaryOp op a b) (EP X pins σ Q) X.xe s)
    (fun pins s σ H x y v u Q I rx ry q => q pins s σ v u I rx ry) (pe_m X a) (pe_m X b)) ?_
  refine h S H0 M0 σ H M R _ fun v H1 M1 d1 ρ1 p1 R1 r1 w1 => ?_
  refine w1 S H0 M0 σ H1 M1 R1 _ fun u H2 M2 d2 ρ2 p2 R2 r2 w2 => ?_
  exact w2 S M2 H2 v u R2.mt (r1.pre p2) r2 Q fun p ws ds hp r q => k p ws H2 M2 ds ρ2 (p1.trans p2) R2 hp r q

/-! ### subscripts -/
def IxD (X : Cx) (G : Cls) (x y : D) (Ψ : D → Prop) : Prop :=
  ∀ (S : Option Addr) (M : Mu) (H : Hp) (v w : V), Rp X.K G S M H v x → Rp X.K G S M H w y → ∀ Q : VK, (∀ u d, Rp X.K G S M H u d → Ψ d → Q u H) → rIx X.K v w H Q
theorem we_sub {ρ : En} {a b : Expr} {pos : Pos} {Φ : D → En → Prop} (hs : PlainIx b) (h : WE X G a ρ fun x ρ1 => WE X G b ρ1 fun y ρ2 => IxD X G x y fun d => Φ d ρ2) : WE X G (.Subscript a b pos) ρ Φ := fun S H0 M0 σ H M R Q k => by
  refine mE_of (pe_ix ix_seq (pe_m X a) (pe_m X b) hs) ?_
  refine h S H0 M0 σ H M R _ fun v H1 M1 d1 ρ1 p1 R1 r1 w1 => ?_
  refine w1 S H0 M0 σ H1 M1 R1 _ fun u H2 M2 d2 ρ2 p2 R2 r2 w2 => ?_
  exact w2 S M2 H2 v u (r1.pre p2) r2 Q fun z d r q => k z H2 M2 d ρ2 (p1.trans p2) R2 r q
theorem RpA.atI {vs : List V} {d : D} (r : RpA K G S M H vs ds) (h : atI ds i = some d) : ∃ v, L2.atI vs i = some v ∧ Rp K G S M H v d := by
  unfold L2.atI at h ⊢
  rw [r.length]
  cases q : ixN ds.length i with
  | none => rw [q] at h; cases h
  | some j => rw [q] at h; exact r.get h
theorem ix_tupD {d : D} (h : L2.atI ds i = some d) (hq : Ψ d) : IxD X G (.tup ds) (.int i) Ψ := fun S M H v w r1 r2 Q k => by
  obtain ⟨a, xs, e1, h1, g1⟩ := r1.tup_
  obtain ⟨u, h2, h3⟩ := g1.atI h
  exact .inr (.inl ⟨a, xs, i, u, e1, r2.int_, h1.sq, h2, k u d h3 hq⟩)
theorem ix_lstD {d : D} (h : L2.atI ds i = some d) (hq : Ψ d) : IxD X G (.lst ds) (.int i) Ψ := fun S M H v w r1 r2 Q k => by
  obtain ⟨a, xs, e1, h1, g1⟩ := r1.lst_
  obtain ⟨u, h2, h3⟩ := g1.atI h
  exact .inl ⟨a, xs, i, u, e1, r2.int_, h1.sq, h2, k u d h3 hq⟩
/-- a slice of a list, of a tuple -/
def cutD (xs : List D) (lo hi : Option Int) : List D := (xs.drop (HT.sIx xs.length 0 lo)).take (HT.sIx xs.length xs.length hi - HT.sIx xs.length 0 lo)
theorem RpA.cut {vs : List V} (r : RpA K G S M H vs ds) (lo hi : Option Int) : RpA K G S M H (cutV vs lo hi) (cutD ds lo hi) := by
  unfold cutV cutD
  rw [r.length]
  exact (r.drop _).take _
def WO (X : Cx) (G : Cls) (e : Option Expr) (ρ : En) (Φ : Option Int → En → Prop) : Prop := match e with
  | none => Φ none ρ
  | some e => WE X G e ρ fun d ρ1 => ∃ i, d = .int i ∧ Φ (some i) ρ1
theorem wo_none {ρ : En} {Φ} (h : Φ none ρ) : WO X G none ρ Φ := h
theorem wo_some {ρ : En} {e : Expr} {Φ} (h : WE X G e ρ fun d ρ1 => ∃ i, d = .int i ∧ Φ (some i) ρ1) : WO X G (some e) ρ Φ := h
def mO (X : Cx) (e : Option Expr) : TO := match e with
  | none => tNoPart
  | some e => tPart (mE X e)
theorem po_m (e : Option Expr) : PO X e (mO X e) := by
  cases e with
  | none => exact po_none
  | some e => exact po_some (pe_m X e)
theorem WO.run {ρ : En} {e : Option Expr} {Φ : Option Int → En → Prop} (h : WO X G e ρ Φ) {S H0 M0 σ H M} (R : Rep X.K G S H0 M0 ρ σ H M) {Q : Option Int → Hp → Prop}
    (k : ∀ i H' M' ρ', Pre M H M' H' → Rep X.K G S H0 M0 ρ' σ H' M' → Φ i ρ' → Q i H') : mO X e σ H Q := by
  cases e with
  | none => exact k none H M ρ (Pre.refl _ _) R h
  | some e => exact h S H0 M0 σ H M R _ fun v H1 M1 d ρ1 p1 R1 r1 ⟨i, e, w⟩ => by subst e; exact ⟨i, r1.int_, k _ H1 M1 ρ1 p1 R1 w⟩
theorem we_sliceT {ρ : En} {e : Expr} {lo hi : Option Expr} {pos p2 : Pos} {Φ : D → En → Prop} (h : WE X G e ρ fun x ρ1 => WO X G lo ρ1 fun l ρ2 => WO X G hi ρ2 fun u ρ3 => ∃ ds, x = .tup ds ∧ Φ (.tup (cutD ds l u)) ρ3) :
    WE X G (.Subscript e (.Slice lo hi none p2) pos) ρ Φ := fun S H0 M0 σ H M R Q k => by
  refine mE_of (pe_slice sl_tupA (pe_m X e) (po_m lo) (po_m hi)) ?_
  refine h S H0 M0 σ H M R _ fun v H1 M1 d1 ρ1 p1 R1 r1 w1 => ?_
  refine w1.run R1 fun l H2 M2 ρ2 p2 R2 w2 => w2.run R2 fun u H3 M3 ρ3 p3 R3 w3 => ?_
  obtain ⟨ds, rfl, w3⟩ := w3
  have r3 := (r1.pre p2).pre p3
  obtain ⟨a, xs, e1, h1, g1⟩ := r3.tup_
  refine ⟨a, xs, e1, h1.sq, fun z => ?_, fun _ p hp => ?_⟩
  · have : cutD ds l u = ds := by
      rw [g1.length] at z
      unfold cutD
      rw [z.1, z.2]
      simp
    rw [this] at w3
    rw [← e1]
    exact k _ H3 M3 _ ρ3 ((p1.trans p2).trans p3) R3 r3 w3
  · obtain ⟨R4, p4, n⟩ := R3.laid (o := .tup (cutV xs l u)) hp
    exact k _ _ M3 _ ρ3 (((p1.trans p2).trans p3).trans p4) R4 (Rp.tupN R3.mt hp (g1.cut l u)) w3
theorem wf_sliceL {ρ : En} {e : Expr} {lo hi : Option Expr} {pos p2 : Pos} {Φ : List D → En → Prop} (h : WE X G e ρ fun x ρ1 => WO X G lo ρ1 fun l ρ2 => WO X G hi ρ2 fun u ρ3 => ∃ ds, x = .lst ds ∧ Φ (cutD ds l u) ρ3) :
    WF X G (.Subscript e (.Slice lo hi none p2) pos) ρ Φ := fun S H0 M0 σ H M R Q k => by
  refine mE_of (pe_slice sl_list (pe_m X e) (po_m lo) (po_m hi)) ?_
  refine h S H0 M0 σ H M R _ fun v H1 M1 d1 ρ1 p1 R1 r1 w1 => ?_
  refine w1.run R1 fun l H2 M2 ρ2 p2 R2 w2 => w2.run R2 fun u H3 M3 ρ3 p3 R3 w3 => ?_
  obtain ⟨ds, rfl, w3⟩ := w3
  have r3 := (r1.pre p2).pre p3
  obtain ⟨a, xs, e1, h1, g1⟩ := r3.lst_
  exact ⟨a, xs, e1, h1.sq, fun p hp => k p _ H3 M3 _ ρ3 ((p1.trans p2).trans p3) R3 hp (g1.cut l u) w3⟩

/-! ### built-in calls -/
theorem cd_lenT (h : Ψ (.int ds.length)) : CallD X G (.builtin "len") [.tup ds] Ψ := cd_of call_len_seq fun S M H vs mt r Q k => by
  obtain ⟨u, rfl, r1⟩ := r.inv1
  obtain ⟨a, xs, rfl, h1, g1⟩ := r1.tup_
  exact ⟨a, xs, rfl, .inr h1.sq, by rw [g1.length]; exact k _ _ _ (Same.refl _) (.int _) h⟩
theorem cd_lenL (h : Ψ (.int ds.length)) : CallD X G (.builtin "len") [.lst ds] Ψ := cd_of call_len_seq fun S M H vs mt r Q k => by
  obtain ⟨u, rfl, r1⟩ := r.inv1
  obtain ⟨a, xs, rfl, h1, g1⟩ := r1.lst_
  exact ⟨a, xs, rfl, .inl h1.sq, by rw [g1.length]; exact k _ _ _ (Same.refl _) (.int _) h⟩
theorem cd_tupleL (h : Ψ (.tup ds)) : CallD X G (.type "tuple") [.lst ds] Ψ := cd_of call_tuple_of fun S M H vs mt r Q k => by
  obtain ⟨u, rfl, r1⟩ := r.inv1
  obtain ⟨a, xs, rfl, h1, g1⟩ := r1.lst_
  exact ⟨a, xs, rfl, .inl ⟨h1.sq, fun l hl => k _ _ _ (same_upd hl) (Rp.tupN mt hl g1) h⟩⟩
theorem cd_tupleT (h : Ψ (.tup ds)) : CallD X G (.type "tuple") [.tup ds] Ψ := cd_of call_tuple_of fun S M H vs mt r Q k => by
  obtain ⟨u, rfl, r1⟩ := r.inv1
  obtain ⟨a, xs, rfl, h1, g1⟩ := r1.tup_
  exact ⟨a, xs, rfl, .inr ⟨h1.sq, k _ _ _ (Same.refl _) r1 h⟩⟩
theorem cf_list {d : D} {Ψ : List D → Prop} (hd : SeqD d ds) (h : Ψ ds) : CallF X G (.type "list") [d] Ψ := cf_of call_list_of fun S M H vs mt r Q k => by
  obtain ⟨u, rfl, r1⟩ := r.inv1
  rcases hd with rfl | rfl
  · obtain ⟨a, xs, rfl, h1, g1⟩ := r1.lst_
    exact ⟨a, xs, rfl, .inl h1.sq, fun l hl => k l _ _ hl g1 h⟩
  · obtain ⟨a, xs, rfl, h1, g1⟩ := r1.tup_
    exact ⟨a, xs, rfl, .inr h1.sq, fun l hl => k l _ _ hl g1 h⟩
theorem cd_all {bs : List Bool} (hc : X.calm = true) (h : Ψ (.bl (bs.all id))) : CallD X G (.builtin "all") [.lst (bs.map D.bl)] Ψ := cd_of (cr_all hc) fun S M H vs mt r Q k => by
  obtain ⟨u, rfl, r1⟩ := r.inv1
  obtain ⟨a, xs, rfl, h1, g1⟩ := r1.lst_
  rw [rpA_bls g1] at h1
  exact ⟨a, bs, rfl, h1.sq, k _ _ _ (Same.refl _) (.bl _) h⟩
theorem cd_any {bs : List Bool} (hc : X.calm = true) (h : Ψ (.bl (bs.any id))) : CallD X G (.builtin "any") [.lst (bs.map D.bl)] Ψ := cd_of (cr_any hc) fun S M H vs mt r Q k => by
  obtain ⟨u, rfl, r1⟩ := r.inv1
  obtain ⟨a, xs, rfl, h1, g1⟩ := r1.lst_
  rw [rpA_bls g1] at h1
  exact ⟨a, bs, rfl, h1.sq, k _ _ _ (Same.refl _) (.bl _) h⟩
theorem cd_sum {ns : List Int} (hc : X.calm = true) (h : Ψ (.int ns.sum)) : CallD X G (.builtin "sum") [.lst (ns.map D.int)] Ψ := cd_of (cr_sum hc) fun S M H vs mt r Q k => by
  obtain ⟨u, rfl, r1⟩ := r.inv1
  obtain ⟨a, xs, rfl, h1, g1⟩ := r1.lst_
  rw [rpA_ints g1] at h1
  exact ⟨a, ns, rfl, h1.sq, k _ _ _ (Same.refl _) (.int _) h⟩
theorem cd_max2 (hc : X.calm = true) (h : Ψ (.int (if j > i then j else i))) : CallD X G (.builtin "max") [.int i, .int j] Ψ := cd_of (call_max2 hc) fun S M H vs mt r Q k => by
  obtain ⟨u, w, rfl, r1, r2⟩ := r.inv2
  exact ⟨i, j, by rw [r1.int_, r2.int_], k _ _ _ (Same.refl _) (.int _) h⟩
theorem cd_min2 (hc : X.calm = true) (h : Ψ (.int (if j < i then j else i))) : CallD X G (.builtin "min") [.int i, .int j] Ψ := cd_of (call_min2 hc) fun S M H vs mt r Q k => by
  obtain ⟨u, w, rfl, r1, r2⟩ := r.inv2
  exact ⟨i, j, by rw [r1.int_, r2.int_], k _ _ _ (Same.refl _) (.int _) h⟩
theorem cd_abs (h : Ψ (.int (if i < 0 then -i else i))) : CallD X G (.builtin "abs") [.int i] Ψ := cd_of call_abs fun S M H vs mt r Q k => by
  obtain ⟨u, rfl, r1⟩ := r.inv1
  exact ⟨i, by rw [r1.int_], k _ _ _ (Same.refl _) (.int _) h⟩
theorem cd_int (h : Ψ (.int i)) : CallD X G (.type "int") [.int i] Ψ := cd_of call_int1 fun S M H vs mt r Q k => by
  obtain ⟨u, rfl, r1⟩ := r.inv1
  exact .inl ⟨i, by rw [r1.int_], k _ _ _ (Same.refl _) (.int _) h⟩
/-- sorted of ints: THE ascending arrangement -/
def srtI (ns : List Int) : List Int := ns.mergeSort fun a b => decide (a ≤ b)
theorem srtI_eq {ns ms : List Int} (p : ms.Perm ns) (s : ms.Pairwise (· ≤ ·)) : ms = srtI ns := by
  have p2 : (srtI ns).Perm ns := List.mergeSort_perm _ _
  have s2 : (srtI ns).Pairwise (· ≤ ·) := by
    have := List.pairwise_mergeSort (le := fun (a b : Int) => decide (a ≤ b)) (fun a b c h1 h2 => by simp at *; omega) (fun a b => by simp; omega) ns
    exact this.imp fun h => by simpa using h
  exact List.Perm.eq_of_pairwise (fun a b _ _ h1 h2 => Int.le_antisymm h1 h2) s s2 (p.trans p2.symm)
theorem cf_sortedI {ns : List Int} {d : D} {Ψ : List D → Prop} (hd : d = .lst (ns.map D.int)) (h : Ψ ((srtI ns).map D.int)) : CallF X G (.builtin "sorted") [d] Ψ := cf_of cr_sortedI fun S M H vs mt r Q k => by
  subst hd
  obtain ⟨u, rfl, r1⟩ := r.inv1
  obtain ⟨a, xs, rfl, h1, g1⟩ := r1.lst_
  rw [rpA_ints g1] at h1
  refine ⟨a, ns, rfl, h1.sq, fun ms p pm sd hp => ?_⟩
  rw [srtI_eq pm sd]
  exact k p _ _ hp (rpA_of_ints _) h

/-! ### isinstance -/
/-- the built-in type's name -/
def D.tyN : D → Option String
  | .non => some "NoneType"
  | .bl _ => some "bool"
  | .int _ => some "int"
  | .str _ => some "str"
  | .tup _ => some "tuple"
  | .lst _ => some "list"
  | _ => none
theorem Rp.tyX {d T} (r : Rp K G S M H v d) (h : d.tyN = some T) : TyX K H v (.type T) := by
  cases r with
  | non => simp only [D.tyN, Option.some.injEq] at h; subst h; exact .base .non
  | bl b => simp only [D.tyN, Option.some.injEq] at h; subst h; exact .base (.bl b)
  | int i => simp only [D.tyN, Option.some.injEq] at h; subst h; exact .base (.int i)
  | str x => simp only [D.tyN, Option.some.injEq] at h; subst h; exact .base (.str x)
  | lst h1 h2 => simp only [D.tyN, Option.some.injEq] at h; subst h; exact .base (.lst h1.2)
  | tup h1 h2 =>
    simp only [D.tyN, Option.some.injEq] at h; subst h
    rcases h1 with ⟨_, h1⟩ | ⟨o, its, n, h1, h3, _⟩
    · exact .base (.tup h1)
    · exact .kTuple h1 h3
  | obj _ _ _ => simp [D.tyN] at h
  | src _ => simp [D.tyN] at h
  | ty _ => simp [D.tyN] at h
  | cls _ => simp [D.tyN] at h
theorem cd_isi {d : D} {T U : String} {b : Bool} (hd : d.tyN = some T) (hb : kitB T U = some b) (h : Ψ (.bl b)) : CallD X G (.builtin "isinstance") [d, .ty U] Ψ := cd_of call_isi fun S M H vs mt r Q k => by
  obtain ⟨u, w, rfl, r1, r2⟩ := r.inv2
  cases r2
  exact ⟨u, .ty U, .type T, .type U, b, rfl, .ty U, r1.tyX hd, kit_ty hb, k _ _ _ (Same.refl _) (.bl _) h⟩
theorem cd_isi2 {d : D} {T U U' : String} {b c : Bool} (hd : d.tyN = some T) (hb : kitB T U = some b) (hc : kitB T U' = some c) (h : Ψ (.bl (b || c))) : CallD X G (.builtin "isinstance") [d, .tup [.ty U, .ty U']] Ψ := cd_of (call_isiT.or call_isiK) fun S M H vs mt r Q k => by
  obtain ⟨u, w, rfl, r1, r2⟩ := r.inv2
  obtain ⟨a, xs, rfl, h1, g1⟩ := r2.tup_
  obtain ⟨u1, u2, rfl, q1, q2⟩ := g1.inv2
  cases q1
  cases q2
  have ka : PySem.W.kitAny X.K (.type T) [.type U, .type U'] = some (b || c) := by
    refine kitAny_cons (kit_ty hb) (fun e => ?_) (fun e => by rw [e]; rfl)
    refine kitAny_cons (kit_ty hc) (fun e' => ?_) (fun e' => by rw [e', e]; rfl)
    rw [e, e']; exact kitAny_nil
  rcases h1 with ⟨_, h1⟩ | ⟨o, its, n, h1, h3, h4, h5, h6⟩
  · exact .inl ⟨u, a, _, .type T, [.type U, .type U'], (b || c), rfl, h1, .cons (.ty U) (.cons (.ty U') .nil), r1.tyX hd, ka, k _ _ _ (Same.refl _) (.bl _) h⟩
  · obtain ⟨oc, od, dt, sl⟩ := o
    simp only at h3 h4
    subst h3 h4
    obtain ⟨its'⟩ := its
    have e := ClsV.all (.cons (.ty U) (.cons (.ty U') .nil)) h6
    simp only at e
    subst e
    exact .inr ⟨u, a, od, _, n, sl, .type T, (b || c), rfl, h1, r1.tyX hd, ka, k _ _ _ (Same.refl _) (.bl _) h⟩
/-- a built-in type as a value -/
theorem we_ty {ρ : En} {x : Str} {pos : Pos} {T : String} {Φ : D → En → Prop} (hg : Gl X x) (hm : X.mg x = none) (hv : bootBuiltins x = some (.type T)) (hn : x ≠ "__name__") (hdb : (x == ("__debug__" : Str)) = false) (h : Φ (.ty T) ρ) : WE X G (.Name x pos) ρ Φ := fun S H0 M0 σ H M R Q k =>
  mE_of (pe_bltn (v := .ty T) hg hm hv rfl hn hdb) (k _ H M _ ρ (Pre.refl _ _) R (.ty T) h)
end
end DL

namespace DL
open PySem PySem.Spec PyProof.Rows L2

/-! ## own lists: methods -/
section
variable {X : Cx} {G : Cls} {ρ : En} {pos p apos cpos : Pos} {e o : Expr} {es : List Expr} {x : Str}
theorem own_var (i : Nat) {ds : List D} {S H0 M0 σ H M} (hN : X.N[i]? = some x) (hv : Vis X.env.scope x) (hd : (x == ("__debug__" : Str)) = false) (hcd : (x == ("__classdict__" : Str)) = false)
    (R : Rep X.K G S H0 M0 ρ σ H M) (ho : ρ[i]? = some (some (.own ds))) : ∃ q vs, σ[i]? = some (some (.ref q)) ∧ H q = some (.lst vs) ∧ RpA X.K G S M H vs ds := by
  obtain ⟨q, vs, h1, h2, h3, _⟩ := R.own i ds ho
  exact ⟨q, vs, h1, h2, h3⟩
theorem we_append (i : Nat) {ds0 : List D} {Φ : D → En → Prop} (hN : X.N[i]? = some x) (hv : Vis X.env.scope x) (hd : (x == ("__debug__" : Str)) = false) (hcd : (x == ("__classdict__" : Str)) = false) (ho : ρ[i]? = some (some (.own ds0)))
    (hbase : attributeBase (.Name x p) "append" X.env (eval (.Name x p) X.env) = eval (.Name x p) X.env)
    (hfew : ((backTo cpos (starEach (e :: es) X.env)).all (fun x => !x.1) && (backToKw cpos (keywordEach [] X.env)).all (fun x => x.1.isSome)
      && decide ((e :: es).length + ([] : List Keyword).length + (if ([] : List Keyword).isEmpty then 0 else 1) < 30)) = true)
    (hline : (apos.endLine == cpos.line) = true) (hs : starEach (e :: es) X.env = (false, eval e X.env) :: starEach es X.env) (hplain : (backTo cpos (starEach es X.env)).any (·.1) = false)
    (h : WA X G (e :: es) ρ fun as ρ1 => ∃ d ds, as = [d] ∧ ρ1[i]? = some (some (.own ds)) ∧ ds.length < sizeLine ∧ Φ .non (ρ1.set i (some (.own (ds ++ [d]))))) :
    WE X G (.Call (.Attribute (.Name x p) "append" apos) (e :: es) [] cpos) ρ Φ := fun S H0 M0 σ H M R Q k => by
  obtain ⟨q, vs, h1, h2, _⟩ := own_var i hN hv hd hcd R ho
  refine mE_of (pe_bm PySem.F.plainAttrs_list PySem.F.slot_list_append PySem.F.type_list_append mt_append (pe_var hN hv hd hcd) (pa_m X (e :: es)) hbase hfew hline hs hplain) ?_
  refine ⟨.ref q, h1, .inl ⟨rfl, _, .inl (.inl h2)⟩, h S H0 M0 σ H M R _ fun as H1 M1 ds1 ρ1 p1 R1 r1 w1 => ?_⟩
  obtain ⟨d, ds, rfl, e1, hl, w⟩ := w1
  obtain ⟨v, rfl, rv⟩ := r1.inv1
  obtain ⟨q', ws, g1, g2, g3, _⟩ := R1.own i ds e1
  rw [h1] at g1
  cases g1
  obtain ⟨R2, p2⟩ := R1.write e1 h1 (g3.append (.one rv))
  exact ⟨q, ws, v, rfl, rfl, g2, by rw [g3.length]; exact hl, k .non _ M1 .non _ (p1.trans p2) R2 .non w⟩
theorem we_extend (i : Nat) {ds0 : List D} {Φ : D → En → Prop} (hN : X.N[i]? = some x) (hv : Vis X.env.scope x) (hd : (x == ("__debug__" : Str)) = false) (hcd : (x == ("__classdict__" : Str)) = false) (ho : ρ[i]? = some (some (.own ds0)))
    (hbase : attributeBase (.Name x p) "extend" X.env (eval (.Name x p) X.env) = eval (.Name x p) X.env)
    (hfew : ((backTo cpos (starEach (e :: es) X.env)).all (fun x => !x.1) && (backToKw cpos (keywordEach [] X.env)).all (fun x => x.1.isSome)
      && decide ((e :: es).length + ([] : List Keyword).length + (if ([] : List Keyword).isEmpty then 0 else 1) < 30)) = true)
    (hline : (apos.endLine == cpos.line) = true) (hs : starEach (e :: es) X.env = (false, eval e X.env) :: starEach es X.env) (hplain : (backTo cpos (starEach es X.env)).any (·.1) = false)
    (h : WA X G (e :: es) ρ fun as ρ1 => ∃ zs ds, as = [.lst zs] ∧ ρ1[i]? = some (some (.own ds)) ∧ ds.length + zs.length ≤ sizeLine ∧ Φ .non (ρ1.set i (some (.own (ds ++ zs))))) :
    WE X G (.Call (.Attribute (.Name x p) "extend" apos) (e :: es) [] cpos) ρ Φ := fun S H0 M0 σ H M R Q k => by
  obtain ⟨q, vs, h1, h2, _⟩ := own_var i hN hv hd hcd R ho
  refine mE_of (pe_bm PySem.F.plainAttrs_list PySem.F.slot_list_extend PySem.F.type_list_extend mt_extend (pe_var hN hv hd hcd) (pa_m X (e :: es)) hbase hfew hline hs hplain) ?_
  refine ⟨.ref q, h1, .inl ⟨rfl, _, .inl (.inl h2)⟩, h S H0 M0 σ H M R _ fun as H1 M1 ds1 ρ1 p1 R1 r1 w1 => ?_⟩
  obtain ⟨zs, ds, rfl, e1, hl, w⟩ := w1
  obtain ⟨v, rfl, rv⟩ := r1.inv1
  obtain ⟨b, us, rfl, hb, rb⟩ := rv.lst_
  obtain ⟨q', ws, g1, g2, g3, _⟩ := R1.own i ds e1
  rw [h1] at g1
  cases g1
  obtain ⟨R2, p2⟩ := R1.write e1 h1 (g3.append rb)
  exact ⟨q, b, ws, us, rfl, rfl, g2, hb.2, by rw [g3.length, rb.length]; exact hl, k .non _ M1 .non _ (p1.trans p2) R2 .non w⟩
/-- xs.pop(k) -/
theorem we_popAt (i : Nat) {ds0 : List D} {Φ : D → En → Prop} (hN : X.N[i]? = some x) (hv : Vis X.env.scope x) (hd : (x == ("__debug__" : Str)) = false) (hcd : (x == ("__classdict__" : Str)) = false) (ho : ρ[i]? = some (some (.own ds0)))
    (hbase : attributeBase (.Name x p) "pop" X.env (eval (.Name x p) X.env) = eval (.Name x p) X.env)
    (hfew : ((backTo cpos (starEach (e :: es) X.env)).all (fun x => !x.1) && (backToKw cpos (keywordEach [] X.env)).all (fun x => x.1.isSome)
      && decide ((e :: es).length + ([] : List Keyword).length + (if ([] : List Keyword).isEmpty then 0 else 1) < 30)) = true)
    (hline : (apos.endLine == cpos.line) = true) (hs : starEach (e :: es) X.env = (false, eval e X.env) :: starEach es X.env) (hplain : (backTo cpos (starEach es X.env)).any (·.1) = false)
    (h : WA X G (e :: es) ρ fun as ρ1 => ∃ (j : Nat) (d : D) (ds : List D), as = [.int j] ∧ ρ1[i]? = some (some (.own ds)) ∧ j < 2 ^ 63 ∧ ds[j]? = some d ∧ Φ d (ρ1.set i (some (.own (ds.eraseIdx j))))) :
    WE X G (.Call (.Attribute (.Name x p) "pop" apos) (e :: es) [] cpos) ρ Φ := fun S H0 M0 σ H M R Q k => by
  obtain ⟨q, vs, h1, h2, _⟩ := own_var i hN hv hd hcd R ho
  refine mE_of (pe_bm PySem.F.plainAttrs_list PySem.F.slot_list_pop PySem.F.type_list_pop mt_popAt (pe_var hN hv hd hcd) (pa_m X (e :: es)) hbase hfew hline hs hplain) ?_
  refine ⟨.ref q, h1, .inl ⟨rfl, _, .inl (.inl h2)⟩, h S H0 M0 σ H M R _ fun as H1 M1 ds1 ρ1 p1 R1 r1 w1 => ?_⟩
  obtain ⟨j, d, ds, rfl, e1, hj, hl, w⟩ := w1
  obtain ⟨v, rfl, rv⟩ := r1.inv1
  obtain rfl := rv.int_
  obtain ⟨q', ws, g1, g2, g3, _⟩ := R1.own i ds e1
  rw [h1] at g1
  cases g1
  obtain ⟨R2, p2⟩ := R1.write e1 h1 (g3.eraseIdx j)
  obtain ⟨u, hu, ru⟩ := g3.get hl
  have hjl : j < ws.length := (List.getElem?_eq_some_iff.mp hu).1
  exact ⟨q, ws, j, j, u, rfl, rfl, g2, by omega, by exact_mod_cast hj, PySem.StrLaws.seqIndex_nonneg (by omega) (by omega), hu, k u _ M1 d _ (p1.trans p2) R2 (ru.pre p2) w⟩

/-- len(xs), xs[k] of an own list -/
theorem we_lenOwn (i : Nat) {ds : List D} {px : Pos} {n : Str} {Φ : D → En → Prop} (hN : X.N[i]? = some x) (hv : Vis X.env.scope x) (hd : (x == ("__debug__" : Str)) = false) (hcd : (x == ("__classdict__" : Str)) = false) (ho : ρ[i]? = some (some (.own ds)))
    (hg : Gl X n) (hm : X.mg n = none) (hb : bootBuiltins n = some (.builtin "len")) (hn : n ≠ "__name__") (hdb : (n == ("__debug__" : Str)) = false) 
    (he : starEach [.Name x px] X.env = (false, eval (.Name x px) X.env) :: starEach [] X.env) (hpl : (backTo pos (starEach [] X.env)).any (·.1) = false)
    (h : Φ (.int ds.length) ρ) : WE X G (.Call (.Name n p) [.Name x px] [] pos) ρ Φ := fun S H0 M0 σ H M R Q k => by
  obtain ⟨q, vs, h1, h2, h3⟩ := own_var i hN hv hd hcd R ho
  refine mE_of (pe_callB call_len_seq hg hm hb (pa_cons (pe_var hN hv hd hcd) pa_nil he) hn hdb he hpl) ?_
  exact ⟨.ref q, h1, q, vs, rfl, .inl (.inl (.inl h2)), k _ H M _ ρ (Pre.refl _ _) R (by rw [h3.length]; exact .int _) h⟩
theorem we_subOwn (i : Nat) {ds : List D} {px : Pos} {b : Expr} {Φ : D → En → Prop} (hN : X.N[i]? = some x) (hv : Vis X.env.scope x) (hd : (x == ("__debug__" : Str)) = false) (hcd : (x == ("__classdict__" : Str)) = false) (ho : ρ[i]? = some (some (.own ds)))
    (hs : PlainIx b) (h : WE X G b ρ fun y ρ1 => ∃ j d ds1, y = .int j ∧ ρ1[i]? = some (some (.own ds1)) ∧ L2.atI ds1 j = some d ∧ Φ d ρ1) : WE X G (.Subscript (.Name x px) b pos) ρ Φ := fun S H0 M0 σ H M R Q k => by
  obtain ⟨q, vs, h1, h2, h3⟩ := own_var i hN hv hd hcd R ho
  refine mE_of (pe_ix ix_list (pe_var hN hv hd hcd) (pe_m X b) hs) ?_
  refine ⟨.ref q, h1, h S H0 M0 σ H M R _ fun v H1 M1 d1 ρ1 p1 R1 r1 w1 => ?_⟩
  obtain ⟨j, d, ds1, rfl, e1, ha, w⟩ := w1
  obtain ⟨q', ws, g1, g2, g3, _⟩ := R1.own i ds1 e1
  rw [h1] at g1
  cases g1
  obtain ⟨u, hu, ru⟩ := g3.atI ha
  exact ⟨q, ws, j, u, rfl, r1.int_, .inl (.inl g2), hu, k u H1 M1 d ρ1 p1 R1 ru w⟩
end

/-! ## targets -/
section
variable (X : Cx) (G : Cls)
def mG (tg : Expr) : TG := fun v σ H Q => ∀ (pins : List (Addr × Obj)) (s : Shared) (u : Value), Inv X pins σ H s → RelV v u → wpAny (model X.prog X.w) X.A (assign tg X.env u) (fun _ s' => ∃ σ' H', Inv X pins σ' H' s' ∧ Q σ' H') X.xe s
def mGs (ts : List Expr) : TGs := fun vs σ H Q => ∀ (pins : List (Addr × Obj)) (s : Shared) (us : List Value), Inv X pins σ H s → Vals vs us → wpAny (model X.prog X.w) X.A (assignInOrder ((assignEach ts X.env).map (·.2)) us) (fun _ s' => ∃ σ' H', Inv X pins σ' H' s' ∧ Q σ' H') X.xe s
theorem pg_m (tg : Expr) : PG X tg (mG X tg) := ⟨fun pins s σ H v u Q I r h => h pins s u I r⟩
theorem pgs_m (ts : List Expr) : PGs X ts (mGs X ts) := ⟨fun pins s σ H v u Q I r h => h pins s u I r⟩
/-- only the slots in W may have changed -/
def Chg (W : Nat → Prop) (σ σ' : L2.St) : Prop := σ'.length = σ.length ∧ ∀ j, ¬ W j → σ'[j]? = σ[j]?
theorem Chg.refl (W : Nat → Prop) (σ : L2.St) : Chg W σ σ := ⟨rfl, fun _ _ => rfl⟩
theorem Chg.trans {W : Nat → Prop} {a b c : L2.St} (h : Chg W a b) (k : Chg W b c) : Chg W a c := ⟨k.1.trans h.1, fun j n => (k.2 j n).trans (h.2 j n)⟩
theorem Chg.set {W : Nat → Prop} {σ : L2.St} {i : Nat} {y : Option V} (h : W i) : Chg W σ (σ.set i y) := ⟨by simp, fun j n => List.getElem?_set_ne (show i ≠ j from fun e => by rw [e] at h; exact n h)⟩
def WG (W : Nat → Prop) (tg : Expr) (d : D) (ρ : En) (Ψ : En → Prop) : Prop :=
  ∀ (S : Option Addr) (H0 : Hp) (M0 : Mu) (σ : L2.St) (H : Hp) (M : Mu) (v : V), Rep X.K G S H0 M0 ρ σ H M → Rp X.K G S M H v d → ∀ Q : L2.St → Hp → Prop,
    (∀ σ' H' M' ρ', Chg W σ σ' → Pre M H M' H' → Rep X.K G S H0 M0 ρ' σ' H' M' → Ψ ρ' → Q σ' H') → mG X tg v σ H Q
def WGs (W : Nat → Prop) (ts : List Expr) (ds : List D) (ρ : En) (Ψ : En → Prop) : Prop :=
  ∀ (S : Option Addr) (H0 : Hp) (M0 : Mu) (σ : L2.St) (H : Hp) (M : Mu) (vs : List V), Rep X.K G S H0 M0 ρ σ H M → RpA X.K G S M H vs ds → ∀ Q : L2.St → Hp → Prop,
    (∀ σ' H' M' ρ', Chg W σ σ' → Pre M H M' H' → Rep X.K G S H0 M0 ρ' σ' H' M' → Ψ ρ' → Q σ' H') → mGs X ts vs σ H Q
variable {X G}
variable {ρ : En} {pos : Pos} {e : Expr} {es : List Expr} {x : Str} {Ψ : En → Prop} {d : D} {ds : List D}
theorem mG_of {tg : Expr} {t : TG} (h : PG X tg t) {v σ H Q} (q : t v σ H Q) : mG X tg v σ H Q := fun pins s u I r => h.run pins s σ H v u Q I r q
theorem mGs_of {ts : List Expr} {t : TGs} (h : PGs X ts t) {v σ H Q} (q : t v σ H Q) : mGs X ts v σ H Q := fun pins s u I r => h.run pins s σ H v u Q I r q
variable {W : Nat → Prop}
theorem wg_name (i : Nat) (hW : W i) (hN : X.N.Nodup) (hi : X.N[i]? = some x) (hx : Loc X.env.scope x) (hf : X.fn x = true ∨ X.env.scope.names.lookup x = some .local) (h : Ψ (ρ.set i (some (.dat d)))) : WG X G W (.Name x pos) d ρ Ψ :=
  fun S H0 M0 σ H M v R r Q k => mG_of (pg_name hN hi hx hf) (k _ H M _ (Chg.set hW) (Pre.refl _ _) (R.set r) h)
theorem wgs_nil (h : Ψ ρ) : WGs X G W [] [] ρ Ψ := fun S H0 M0 σ H M vs R r Q k => mGs_of pgs_nil (by cases r; exact ⟨rfl, k σ H M ρ (Chg.refl _ _) (Pre.refl _ _) R h⟩)
theorem wgs_cons (hs : (assignEach (e :: es) X.env).map (·.2) = assign e X.env :: (assignEach es X.env).map (·.2)) (h : WG X G W e d ρ fun ρ1 => WGs X G W es ds ρ1 Ψ) : WGs X G W (e :: es) (d :: ds) ρ Ψ := fun S H0 M0 σ H M vs R r Q k => by
  refine mGs_of (pgs_cons (pg_m X e) (pgs_m X es) hs) ?_
  cases r with
  | cons r1 r2 =>
    refine ⟨_, _, rfl, h S H0 M0 σ H M _ R r1 _ fun σ1 H1 M1 ρ1 c1 p1 R1 w1 => ?_⟩
    exact w1 S H0 M0 σ1 H1 M1 _ R1 (r2.pre p1) Q fun σ2 H2 M2 ρ2 c2 p2 R2 w2 => k σ2 H2 M2 ρ2 (c1.trans c2) (p1.trans p2) R2 w2
theorem wg_tup {kk : Nat} (hc : X.calm = true) (hn : (assignEach es X.env).length = ds.length) (hst : (assignEach es X.env).findIdx? (·.1) = none) (h : WGs X G W es ds ρ Ψ) : WG X G W (.Tuple es kk pos) (.tup ds) ρ Ψ := fun S H0 M0 σ H M v R r Q k => by
  refine mG_of (pg_tup hc (pgs_m X es) hn hst) ?_
  obtain ⟨a, xs, rfl, h1, g1⟩ := r.tup_
  exact ⟨a, xs, rfl, h1.sq, g1.length, h S H0 M0 σ H M xs R g1 Q k⟩
/-- target = value -/
theorem ws_asgT {tg : Expr} {P : Po} (hs : swapsWithSole [tg] e pos.line X.env = pure false) (hw : swappedStores [tg] e X.env = pure none) (h1 : (assignEach [tg] X.env).map (·.2) = [assign tg X.env])
    (h : WE X G e ρ fun d ρ1 => WG X G (fun _ => True) tg d ρ1 P.nx) : WS X G (.Assign [tg] e pos) ρ P := fun S H0 M0 σ H M R E k =>
  mS_of (ps_asg (pe_m X e) (pg_m X tg) hs hw h1) (h S H0 M0 σ H M R _ fun v H1 M1 d ρ1 p1 R1 r1 w1 =>
    w1 S H0 M0 σ H1 M1 v R1 r1 _ fun σ2 H2 M2 ρ2 _ p2 R2 w2 => k.nx σ2 H2 M2 ρ2 (p1.trans p2) R2 w2)
/-- a, b = x, y -/
theorem ws_par {i j : Nat} {x y : Str} {a b : Expr} {px py pt : Pos} {kt k2 pt2} {P : Po} (hc : X.calm = true) (hN : X.N.Nodup) (hi : X.N[i]? = some x) (hj : X.N[j]? = some y) (hij : i ≠ j)
    (hx : X.env.scope.names.lookup x = some .local) (hy : X.env.scope.names.lookup y = some .local)
    (hw : swappedStores [.Tuple [.Name x px, .Name y py] kt pt] (.Tuple [a, b] k2 pt2) X.env = pure (some [x, y]))
    (hs : swapsWithSole [.Tuple [.Name x px, .Name y py] kt pt] (.Tuple [a, b] k2 pt2) pos.line X.env = pure false)
    (h : WA X G [a, b] ρ fun ds ρ1 => ∃ d1 d2, ds = [d1, d2] ∧ P.nx ((ρ1.set i (some (.dat d1))).set j (some (.dat d2)))) :
    WS X G (.Assign [.Tuple [.Name x px, .Name y py] kt pt] (.Tuple [a, b] k2 pt2) pos) ρ P := fun S H0 M0 σ H M R E k => by
  refine mS_of (L2.ps_par hc hN hi hj hij hx hy (pa_m X [a, b]) hw hs) (h S H0 M0 σ H M R _ fun vs H1 M1 ds ρ1 p1 R1 r1 w1 => ?_)
  obtain ⟨d1, d2, rfl, w⟩ := w1
  obtain ⟨u, v, rfl, g1, g2⟩ := r1.inv2
  exact ⟨u, v, rfl, k.nx _ H1 M1 _ p1 ((R1.set g1).set g2) w⟩
end

/-! ## what is walked -/
/-- the walk J yields just these data -/
def ItD (K : PySem.W.Frag) (G : Cls) (S : Option Addr) (J : It) (ds : List D) (M : Mu) (H : Hp) : Prop :=
  ∀ M' H', Pre M H M' H' → (∀ b, M' b → H' b ≠ none) → ∀ i, (∀ d, ds[i]? = some d → J.go i H' ∧ ∀ x H'', J.yld i H' x H'' → Same H' H'' ∧ Rp K G S M' H'' x d) ∧ (ds.length ≤ i → J.stop i H')
section
variable (X : Cx) (G : Cls)
def mI (tg iter : Expr) : TI := fun σ H R => ∀ (pins : List (Addr × Obj)) (s : Shared), Inv X pins σ H s →
  wpAny (model X.prog X.w) X.A (eval iter X.env) (fun v s1 => wpAny (model X.prog X.w) X.A (pyIter v) (PIE X pins σ tg R) X.xe s1) X.xe s
theorem pi_m (tg iter : Expr) : PI X tg iter (mI X tg iter) := ⟨fun pins s σ H R I h => h pins s I⟩
def WI (tg iter : Expr) (ρ : En) (Φ : List D → En → Prop) : Prop :=
  ∀ (S : Option Addr) (H0 : Hp) (M0 : Mu) (σ : L2.St) (H : Hp) (M : Mu), Rep X.K G S H0 M0 ρ σ H M → ∀ Q : It → Hp → Prop,
    (∀ J H' M' ds ρ', Pre M H M' H' → Rep X.K G S H0 M0 ρ' σ H' M' → ItD X.K G S J ds M' H' → Φ ds ρ' → Q J H') → mI X tg iter σ H Q
variable {X G}
theorem mI_of {tg iter : Expr} {t : TI} (h : PI X tg iter t) {σ H Q} (q : t σ H Q) : mI X tg iter σ H Q := fun pins s I => h.run pins s σ H Q I q
theorem itd_list {K : PySem.W.Frag} {S M H a} {xs : List V} {ds : List D} (h : LsM K M H a xs) (r : RpA K G S M H xs ds) (inj : ∀ H' ys, SqL K H' a ys → H' a = some (.lst xs) → ys = xs) : ItD K G S (Itl K a) ds M H := fun M' H' p mt i => by
  have h' := h.pre p
  have r' := r.pre p
  refine ⟨fun d hd => ?_, fun hl => ⟨xs, h'.sq, by rw [r.length]; exact hl⟩⟩
  obtain ⟨v, hv, rv⟩ := r'.get hd
  exact ⟨⟨xs, v, h'.sq, hv⟩, fun x H'' y => by
    obtain ⟨rfl, y⟩ := y
    have := y xs h'.sq
    rw [hv] at this
    cases this
    exact ⟨Same.refl _, rv⟩⟩
theorem itd_tup {K : PySem.W.Frag} {S M H a} {xs : List V} {ds : List D} (h : TsM K M H a xs) (r : RpA K G S M H xs ds) : ItD K G S (Itt K a) ds M H := fun M' H' p mt i => by
  have h' := h.pre p
  have r' := r.pre p
  refine ⟨fun d hd => ?_, fun hl => ⟨xs, h'.sq, by rw [r.length]; exact hl⟩⟩
  obtain ⟨v, hv, rv⟩ := r'.get hd
  exact ⟨⟨xs, v, h'.sq, hv⟩, fun x H'' y => by
    obtain ⟨rfl, y⟩ := y
    have := y xs h'.sq
    rw [hv] at this
    cases this
    exact ⟨Same.refl _, rv⟩⟩
/-- the range's data -/
def rngD (lo : Int) (n : Nat) : List D := (List.range n).map fun i => .int (lo + (i : Nat))
theorem itd_range {K : PySem.W.Frag} {S M H} {lo : Int} {n : Nat} : ItD K G S (Itr lo n) (rngD lo n) M H := fun M' H' p mt i => by
  refine ⟨fun d hd => ?_, fun hl => by
    show n ≤ i
    unfold rngD at hl
    simpa using hl⟩
  unfold rngD at hd
  rw [List.getElem?_map] at hd
  by_cases hi : i < n
  · rw [List.getElem?_range hi] at hd
    cases hd
    exact ⟨hi, fun x H'' y => by obtain ⟨rfl, rfl⟩ := y; exact ⟨Same.refl _, .int _⟩⟩
  · rw [List.getElem?_eq_none (by simpa using hi)] at hd
    cases hd

/-- a list or a tuple -/
def iSeq (K : PySem.W.Frag) (tl : TE) : TI := fun σ H R => tl σ H fun x H1 => ∃ a xs, x = .ref a ∧ ((SqL K H1 a xs ∧ (xs.length ≤ sizeLine → R (Itl K a) H1)) ∨ (SqT K H1 a xs ∧ (xs.length ≤ sizeLine → R (Itt K a) H1)))
theorem pi_seq {tg l : Expr} {tl : TE} (hl : PE X l tl) : PI X tg l (iSeq X.K tl) := by
  refine ⟨fun pins s σ H R I h => ?_⟩
  refine thn (hl.run pins s σ H _ I h) fun v s1 ⟨x, H1, I1, r1, q1⟩ => ?_
  obtain ⟨a, xs, e, q1⟩ := q1
  subst e
  cases r1
  rcases q1 with ⟨hq, q⟩ | ⟨hq, q⟩
  · obtain ⟨its, rv, p, hz⟩ := I1.list hq
    refine wpAny_pyIter_list p.isList ?_
    refine ⟨s1.heap.objs.size, [s1.heap.objs.size], _, _, H1, rfl, I1.kept (t' := s1.toks) fun b o e => Heap.get?_push_of_some _ e, turn_list a _, ⟨_, Heap.get?_push_size _ rfl, rfl, rfl⟩, fun b hb => ?_, q hz⟩
    have e : b = s1.heap.objs.size := by simpa using hb
    subst e
    exact I1.fpOk (Nat.le_refl _) (I1.hok.fresh (Nat.le_refl _))
  · obtain ⟨its, rv, p, hz⟩ := I1.tuple hq
    refine wpAny_pyIter_tuple (show s1.heap.IsTuple a its.toArray from p) ?_
    refine ⟨s1.heap.objs.size, [s1.heap.objs.size], _, _, H1, rfl, I1.kept (t' := s1.toks) fun b o e => Heap.get?_push_of_some _ e, turn_tuple a _, ⟨_, Heap.get?_push_size _ rfl, rfl, rfl⟩, fun b hb => ?_, q hz⟩
    have e : b = s1.heap.objs.size := by simpa using hb
    subst e
    exact I1.fpOk (Nat.le_refl _) (I1.hok.fresh (Nat.le_refl _))
theorem wi_seq {ρ : En} {tg e : Expr} {Φ : List D → En → Prop} (h : WE X G e ρ fun d ρ1 => ∃ ds, SeqD d ds ∧ (ds.length ≤ sizeLine → Φ ds ρ1)) : WI X G tg e ρ Φ := fun S H0 M0 σ H M R Q k => by
  refine mI_of (pi_seq (pe_m X e)) (h S H0 M0 σ H M R _ fun v H1 M1 d ρ1 p1 R1 r1 w1 => ?_)
  obtain ⟨ds, hd, w⟩ := w1
  rcases hd with rfl | rfl
  · obtain ⟨a, xs, rfl, h1, g1⟩ := r1.lst_
    refine ⟨a, xs, rfl, .inl ⟨h1.sq, fun hz => k _ H1 M1 ds ρ1 p1 R1 ?_ (w (by rw [← g1.length]; exact hz))⟩⟩
    intro M' H' p mt i
    have h' := h1.pre p
    have r' := g1.pre p
    refine ⟨fun d hd => ?_, fun hl => ⟨xs, h'.sq, by rw [g1.length]; exact hl⟩⟩
    obtain ⟨v, hv, rv⟩ := r'.get hd
    exact ⟨⟨xs, v, h'.sq, hv⟩, fun x H'' y => by
      obtain ⟨rfl, y⟩ := y
      have := y xs h'.sq
      rw [hv] at this
      cases this
      exact ⟨Same.refl _, rv⟩⟩
  · obtain ⟨a, xs, rfl, h1, g1⟩ := r1.tup_
    exact ⟨a, xs, rfl, .inr ⟨h1.sq, fun hz => k _ H1 M1 ds ρ1 p1 R1 (itd_tup h1 g1) (w (by rw [← g1.length]; exact hz))⟩⟩
theorem wi_range1 {ρ : En} {tg a : Expr} {p pos : Pos} {Φ : List D → En → Prop} (hg : Gl X "range") (hm : X.mg "range" = none) (hs : starEach [a] X.env = [(false, eval a X.env)])
    (h : WA X G [a] ρ fun ds ρ1 => ∃ j : Int, ds = [.int j] ∧ j ≤ 16777216 ∧ -(2 ^ 62) ≤ j ∧ Φ (rngD 0 j.toNat) ρ1) : WI X G tg (.Call (.Name "range" p) [a] [] pos) ρ Φ := fun S H0 M0 σ H M R Q k => by
  refine mI_of (pi_range1 hg hm (pa_m X [a]) hs) (h S H0 M0 σ H M R _ fun vs H1 M1 ds ρ1 p1 R1 r1 w1 => ?_)
  obtain ⟨j, rfl, h1, h2, w⟩ := w1
  obtain ⟨v, rfl, rv⟩ := r1.inv1
  exact ⟨j, by rw [rv.int_], h2, by omega, k _ H1 M1 _ ρ1 p1 R1 itd_range w⟩
theorem wi_range2 {ρ : En} {tg a b : Expr} {p pos : Pos} {Φ : List D → En → Prop} (hg : Gl X "range") (hm : X.mg "range" = none) (hs : starEach [a, b] X.env = [(false, eval a X.env), (false, eval b X.env)]) (hs2 : starEach [b] X.env = [(false, eval b X.env)])
    (h : WA X G [a, b] ρ fun ds ρ1 => ∃ i j : Int, ds = [.int i, .int j] ∧ (-(2 ^ 62) ≤ i ∧ i < 2 ^ 62 ∧ -(2 ^ 62) ≤ j ∧ j < 2 ^ 62) ∧ Φ (rngD i (j - i).toNat) ρ1) : WI X G tg (.Call (.Name "range" p) [a, b] [] pos) ρ Φ := fun S H0 M0 σ H M R Q k => by
  refine mI_of (pi_range2 hg hm (pa_m X [a, b]) hs hs2) (h S H0 M0 σ H M R _ fun vs H1 M1 ds ρ1 p1 R1 r1 w1 => ?_)
  obtain ⟨i, j, rfl, h1, w⟩ := w1
  obtain ⟨u, v, rfl, ru, rv⟩ := r1.inv2
  exact ⟨i, j, by rw [ru.int_, rv.int_], h1, k _ H1 M1 _ ρ1 p1 R1 itd_range w⟩
/-- zip of two lists, of two tuples -/
def zipD (xs ys : List D) : List D := (xs.zip ys).map fun p => .tup [p.1, p.2]
theorem zipD_get {xs ys : List D} {i : Nat} {d : D} (h : (zipD xs ys)[i]? = some d) : ∃ x y, xs[i]? = some x ∧ ys[i]? = some y ∧ d = .tup [x, y] := by
  unfold zipD at h
  rw [List.getElem?_map] at h
  cases q : (xs.zip ys)[i]? with
  | none => rw [q] at h; cases h
  | some z =>
    rw [q] at h
    cases h
    obtain ⟨h1, h2⟩ := List.getElem?_zip_eq_some.mp q
    exact ⟨z.1, z.2, h1, h2, rfl⟩
theorem wi_zip {ρ : En} {a b : Expr} {p pos tpos : Pos} {elts : List Expr} {kk : Nat} {Φ : List D → En → Prop} (hg : Gl X "zip") (hm : X.mg "zip" = none)
    (hs : starEach [a, b] X.env = (false, eval a X.env) :: starEach [b] X.env) (hpl : (backTo pos (starEach [b] X.env)).any (·.1) = false)
    (h : WA X G [a, b] ρ fun ds ρ1 => ∃ xs ys, (ds = [.lst xs, .lst ys] ∨ ds = [.tup xs, .tup ys]) ∧ Φ (zipD xs ys) ρ1) : WI X G (.Tuple elts kk tpos) (.Call (.Name "zip" p) [a, b] [] pos) ρ Φ := fun S H0 M0 σ H M R Q k => by
  refine mI_of (RZ.pi_zipA hg hm (pa_m X [a, b]) hs hpl) (h S H0 M0 σ H M R _ fun vs H1 M1 ds ρ1 p1 R1 r1 w1 => ?_)
  obtain ⟨xs, ys, hd, w⟩ := w1
  rcases hd with rfl | rfl
  · obtain ⟨u, v, rfl, ru, rv⟩ := r1.inv2
    obtain ⟨a, us, rfl, h1, g1⟩ := ru.lst_
    obtain ⟨b, ws, rfl, h2, g2⟩ := rv.lst_
    refine ⟨a, b, us, ws, rfl, .inl ⟨h1.sq, h2.sq, k _ H1 M1 _ ρ1 p1 R1 (fun M' H' p mt i => ⟨fun d hd => ?_, fun hl => ?_⟩) w⟩⟩
    · obtain ⟨x, y, e1, e2, rfl⟩ := zipD_get hd
      obtain ⟨vx, hx, rx⟩ := (g1.pre p).get e1
      obtain ⟨vy, hy, ry⟩ := (g2.pre p).get e2
      refine ⟨⟨us, ws, vx, vy, (h1.pre p).sq, (h2.pre p).sq, hx, hy⟩, fun z H'' q => ?_⟩
      obtain ⟨T, x', y', rfl, nT, rfl, f1, f2⟩ := q
      have q1 := f1 us (h1.pre p).sq
      have q2 := f2 ws (h2.pre p).sq
      rw [hx] at q1; rw [hy] at q2
      cases q1; cases q2
      exact ⟨same_upd nT, Rp.tupN mt nT (.cons rx (.one ry))⟩
    · refine ⟨us, ws, (h1.pre p).sq, (h2.pre p).sq, ?_⟩
      unfold zipD at hl
      rw [List.length_map, List.length_zip] at hl
      rw [g1.length, g2.length]
      omega
  · obtain ⟨u, v, rfl, ru, rv⟩ := r1.inv2
    obtain ⟨a, us, rfl, h1, g1⟩ := ru.tup_
    obtain ⟨b, ws, rfl, h2, g2⟩ := rv.tup_
    refine ⟨a, b, us, ws, rfl, .inr ⟨h1.sq, h2.sq, k _ H1 M1 _ ρ1 p1 R1 (fun M' H' p mt i => ⟨fun d hd => ?_, fun hl => ?_⟩) w⟩⟩
    · obtain ⟨x, y, e1, e2, rfl⟩ := zipD_get hd
      obtain ⟨vx, hx, rx⟩ := (g1.pre p).get e1
      obtain ⟨vy, hy, ry⟩ := (g2.pre p).get e2
      refine ⟨⟨us, ws, vx, vy, (h1.pre p).sq, (h2.pre p).sq, hx, hy⟩, fun z H'' q => ?_⟩
      obtain ⟨T, x', y', rfl, nT, rfl, f1, f2⟩ := q
      have q1 := f1 us (h1.pre p).sq
      have q2 := f2 ws (h2.pre p).sq
      rw [hx] at q1; rw [hy] at q2
      cases q1; cases q2
      exact ⟨same_upd nT, Rp.tupN mt nT (.cons rx (.one ry))⟩
    · refine ⟨us, ws, (h1.pre p).sq, (h2.pre p).sq, ?_⟩
      unfold zipD at hl
      rw [List.length_map, List.length_zip] at hl
      rw [g1.length, g2.length]
      omega
/-- enumerate of a list -/
def enumD (xs : List D) : List D := (List.range xs.length).map fun i => .tup [.int (i : Nat), xs.getD i .non]
theorem enumD_get {xs : List D} {i : Nat} {d : D} (h : (enumD xs)[i]? = some d) : ∃ x, xs[i]? = some x ∧ d = .tup [.int (i : Nat), x] := by
  unfold enumD at h
  rw [List.getElem?_map] at h
  by_cases hi : i < xs.length
  · rw [List.getElem?_range hi] at h
    cases h
    exact ⟨xs[i], List.getElem?_eq_getElem hi, by simp [List.getD, hi]⟩
  · rw [List.getElem?_eq_none (by simpa using hi)] at h
    cases h
theorem enumD_length (xs : List D) : (enumD xs).length = xs.length := by unfold enumD; simp
theorem wi_enumL {ρ : En} {a : Expr} {p pos tpos : Pos} {elts : List Expr} {kk : Nat} {Φ : List D → En → Prop} (hg : Gl X "enumerate") (hm : X.mg "enumerate" = none) (hs : starEach [a] X.env = [(false, eval a X.env)])
    (h : WA X G [a] ρ fun ds ρ1 => ∃ xs, ds = [.lst xs] ∧ Φ (enumD xs) ρ1) : WI X G (.Tuple elts kk tpos) (.Call (.Name "enumerate" p) [a] [] pos) ρ Φ := fun S H0 M0 σ H M R Q k => by
  refine mI_of (pi_enum hg hm (pa_m X [a]) hs) (h S H0 M0 σ H M R _ fun vs H1 M1 ds ρ1 p1 R1 r1 w1 => ?_)
  obtain ⟨xs, rfl, w⟩ := w1
  obtain ⟨u, rfl, ru⟩ := r1.inv1
  obtain ⟨a, us, rfl, h1, g1⟩ := ru.lst_
  refine ⟨a, us, rfl, h1.sq, k _ H1 M1 _ ρ1 p1 R1 (fun M' H' p mt i => ⟨fun d hd => ?_, fun hl => ?_⟩) w⟩
  · obtain ⟨x, e1, rfl⟩ := enumD_get hd
    obtain ⟨vx, hx, rx⟩ := (g1.pre p).get e1
    refine ⟨⟨us, vx, (h1.pre p).sq, hx⟩, fun z H'' q => ?_⟩
    obtain ⟨T, x', rfl, nT, rfl, f1⟩ := q
    have q1 := f1 us (h1.pre p).sq
    rw [hx] at q1
    cases q1
    exact ⟨same_upd nT, Rp.tupN mt nT (.cons (.int _) (.one rx))⟩
  · refine ⟨us, (h1.pre p).sq, ?_⟩
    rw [enumD_length] at hl
    rw [g1.length]
    exact hl
end
end DL

namespace DL
open PySem PySem.Spec PyProof.Rows L2

/-! ## for -/
section
variable {X : Cx} {G : Cls} {ρ : En} {pos : Pos} {tg iter : Expr} {body : List Stmt} {P : Po}
theorem ws_for (hp : PassesOwn (model X.prog X.w) X.A X.env X.xe) (hc : X.calm = true) (hs : ∀ x, foldedSetIterable iter X.env x = pure x)
    (h : WI X G tg iter ρ fun ds ρ1 => ∃ I : Nat → En → Prop, I 0 ρ1 ∧
      (∀ k d ρ2, ds[k]? = some d → I k ρ2 → WG X G (fun _ => True) tg d ρ2 fun ρ3 => WSs X G body ρ3 { P with nx := I (k + 1), ct := I (k + 1), bk := P.nx }) ∧ ∀ ρ2, I ds.length ρ2 → P.nx ρ2) :
    WS X G (.For tg iter body [] pos) ρ P := fun S H0 M0 σ H M R E k => by
  refine mS_of (ps_for hp hc (pi_m X tg iter) (pg_m X tg) (pss_m X body) hs) ?_
  refine h S H0 M0 σ H M R _ fun J H1 M1 ds ρ1 p1 R1 it ⟨I, i0, turn, fin⟩ => ?_
  refine ⟨fun i m σ H => m = ds.length - i ∧ i ≤ ds.length ∧ ∃ ρ2 M2, Pre M1 H1 M2 H ∧ Rep X.K G S H0 M0 ρ2 σ H M2 ∧ I i ρ2, ⟨ds.length, by simp, Nat.zero_le _, ρ1, M1, Pre.refl _ _, R1, i0⟩, ?_⟩
  rintro i m σ2 H2 ⟨rfl, hi, ρ2, M2, p2, R2, inv⟩
  have ii := it M2 H2 p2 R2.mt i
  by_cases hlt : i < ds.length
  · obtain ⟨go, yl⟩ := ii.1 ds[i] (List.getElem?_eq_getElem hlt)
    refine .inr ⟨go, fun σ' H' => ∃ ρ2 M2, Pre M1 H1 M2 H' ∧ Rep X.K G S H0 M0 ρ2 σ' H' M2 ∧ I (i + 1) ρ2, fun σ' H' q => ⟨ds.length - (i + 1), by omega, rfl, hlt, q⟩, fun x H3 y => ?_⟩
    obtain ⟨sm, rx⟩ := yl x H3 y
    have p3 := p2.trans (pre_of_same sm)
    refine turn i ds[i] ρ2 (List.getElem?_eq_getElem hlt) inv S H0 M0 σ2 H3 M2 x (R2.same sm) rx _ fun σ4 H4 M4 ρ4 _ p4 R4 w4 => ?_
    refine w4 S H0 M0 σ4 H4 M4 R4 _ ?_
    have p5 := p3.trans p4
    exact ⟨fun σ' H' M' ρ' p R' w => ⟨ρ', M', p5.trans p, R', w⟩, fun v σ' H' M' d ρ' p R' r w => k.rt v σ' H' M' d ρ' ((p1.trans p5).trans p) R' r w, fun σ' H' M' ρ' p R' w => k.nx σ' H' M' ρ' ((p1.trans p5).trans p) R' w, fun σ' H' M' ρ' p R' w => ⟨ρ', M', p5.trans p, R', w⟩⟩
  · have e : i = ds.length := by omega
    subst e
    exact .inl ⟨ii.2 (Nat.le_refl _), k.nx σ2 H2 M2 ρ2 (p1.trans p2) R2 (fin ρ2 inv)⟩
/-- while, by an invariant and a measure -/
theorem ws_while {c : Expr} (hp : PassesOwn (model X.prog X.w) X.A X.env X.xe) (I : Nat → En → Prop) (n : Nat) (h0 : I n ρ)
    (turn : ∀ m ρ2, I m ρ2 → WT X G c ρ2 fun b ρ3 => if b = true then WSs X G body ρ3 { P with nx := fun ρ4 => ∃ m', m' < m ∧ I m' ρ4, ct := fun ρ4 => ∃ m', m' < m ∧ I m' ρ4, bk := P.nx } else P.nx ρ3) :
    WS X G (.While c body [] pos) ρ P := fun S H0 M0 σ H M R E k => by
  refine mS_of (ps_while hp (pt_m X c) (pss_m X body)) ?_
  refine ⟨fun m σ2 H2 => ∃ ρ2 M2, Pre M H M2 H2 ∧ Rep X.K G S H0 M0 ρ2 σ2 H2 M2 ∧ I m ρ2, ⟨n, ρ, M, Pre.refl _ _, R, h0⟩, ?_⟩
  rintro m σ2 H2 ⟨ρ2, M2, p2, R2, inv⟩
  refine turn m ρ2 inv S H0 M0 σ2 H2 M2 R2 _ fun b H3 M3 ρ3 p3 R3 w3 => ?_
  have p4 := p2.trans p3
  cases b with
  | true =>
    refine ⟨fun σ' H' => ∃ m', m' < m ∧ ∃ ρ2 M2, Pre M H M2 H' ∧ Rep X.K G S H0 M0 ρ2 σ' H' M2 ∧ I m' ρ2, fun σ' H' q => q, ?_⟩
    refine w3 S H0 M0 σ2 H3 M3 R3 _ ?_
    exact ⟨fun σ' H' M' ρ' p R' ⟨m', hm, w⟩ => ⟨m', hm, ρ', M', p4.trans p, R', w⟩, fun v σ' H' M' d ρ' p R' r w => k.rt v σ' H' M' d ρ' (p4.trans p) R' r w, fun σ' H' M' ρ' p R' w => k.nx σ' H' M' ρ' (p4.trans p) R' w, fun σ' H' M' ρ' p R' ⟨m', hm, w⟩ => ⟨m', hm, ρ', M', p4.trans p, R', w⟩⟩
  | false => exact k.nx σ2 H3 M3 ρ3 p4 R3 w3
end

/-! ## comprehensions -/
def dropOwn : Option EV → Option EV
  | some (.dat d) => some (.dat d)
  | _ => none
def wipeE (ρ : En) : List Nat → En
  | [] => ρ
  | v :: vs => (wipeE ρ vs).set v none
/-- what a comprehension's block sees -/
def blkEn (ρ : En) (vs : List Nat) : En := wipeE (ρ.map dropOwn) vs
theorem wipeE_length (ρ : En) : ∀ vs : List Nat, (wipeE ρ vs).length = ρ.length
  | [] => rfl
  | v :: vs => by unfold wipeE; rw [List.length_set, wipeE_length ρ vs]
theorem wipeE_some {ρ : En} {i : Nat} {y : EV} : ∀ {vs : List Nat}, (wipeE ρ vs)[i]? = some (some y) → ρ[i]? = some (some y) ∧ i ∉ vs
  | [], h => ⟨h, by simp⟩
  | v :: vs, h => by
    unfold wipeE at h
    by_cases hi : v = i
    · subst hi
      by_cases hv : v < (wipeE ρ vs).length
      · rw [List.getElem?_set_self hv] at h; cases h
      · rw [List.getElem?_eq_none (by simpa using hv)] at h; cases h
    · rw [List.getElem?_set_ne hi] at h
      obtain ⟨h1, h2⟩ := wipeE_some h
      exact ⟨h1, by simp only [List.mem_cons, not_or]; exact ⟨fun e => hi e.symm, h2⟩⟩
theorem blkEn_some {ρ : En} {i : Nat} {y : EV} {vs : List Nat} (h : (blkEn ρ vs)[i]? = some (some y)) : ∃ d, y = .dat d ∧ ρ[i]? = some (some (.dat d)) ∧ i ∉ vs := by
  obtain ⟨h1, h2⟩ := wipeE_some h
  rw [List.getElem?_map] at h1
  cases q : ρ[i]? with
  | none => rw [q] at h1; cases h1
  | some z =>
    rw [q] at h1
    match z, h1 with
    | some (.dat d), h1 => cases h1; exact ⟨d, rfl, rfl, h2⟩
theorem wipe_in {σ : L2.St} {i : Nat} : ∀ {vs : List Nat}, i ∈ vs → i < σ.length → (L2.wipe σ vs)[i]? = some none
  | v :: vs, h, hl => by
    unfold L2.wipe
    by_cases e : v = i
    · subst e
      rw [List.getElem?_set_self (by rw [L2.wipe_length]; exact hl)]
    · rw [List.getElem?_set_ne e]
      exact wipe_in ((List.mem_cons.mp h).resolve_left (fun z => e z.symm)) hl
theorem wipe_chg {σ σ' : L2.St} {vs : List Nat} (h : Chg (fun j => j ∈ vs) σ σ') : L2.wipe σ' vs = L2.wipe σ vs := by
  apply List.ext_getElem?
  intro i
  by_cases hi : i ∈ vs
  · by_cases hl : i < σ.length
    · rw [wipe_in hi hl, wipe_in hi (by rw [h.1]; exact hl)]
    · rw [List.getElem?_eq_none (by rw [L2.wipe_length, h.1]; omega), List.getElem?_eq_none (by rw [L2.wipe_length]; omega)]
  · rw [L2.wipe_out hi, L2.wipe_out hi]
    exact h.2 i hi
theorem wipe_wipe (σ : L2.St) (vs : List Nat) : Chg (fun j => j ∈ vs) (L2.wipe σ vs) σ := ⟨(L2.wipe_length σ vs).symm, fun j n => (L2.wipe_out n).symm⟩

/-- a block of X -/
abbrev Bk (X : Cx) (scope : Scope) (s : Shared) (H : Hp) (C : Addr) (cl : List (Str × Addr)) (fp : List Addr) : Cx := X.blk s H scope (compEnvC scope cl C X.env) fp
def ers (p : Addr) (H : Hp) : Hp := fun b => if b = p then none else H b
theorem ers_ne {p b : Addr} {H : Hp} (h : b ≠ p) : ers p H b = H b := by unfold ers; rw [if_neg h]
theorem ers_same {p : Addr} {H : Hp} : ers p H p = none := by unfold ers; rw [if_pos rfl]
theorem upd_ers {p : Addr} {H : Hp} {o : HO} (h : H p = some o) : upd (ers p H) p o = H := by
  funext b
  by_cases e : b = p
  · subst e; rw [upd_same, h]
  · rw [upd_ne e, ers_ne e]

section
variable {X : Cx} {G : Cls} {ρ : En} {pos : Pos} {tg iter elt : Expr} {scope : Scope} {own : List (Str × Nat)}
/-- the block's fixed part: MD is M1 with the new list at Dl -/
structure Bs (MD M1 : Mu) (H1 : Hp) (Dl : Addr) : Prop where
  sub : ∀ b o, H1 b = some o → ¬ M1 b → ¬ MD b
  up : ∀ b, M1 b → MD b
  dl : MD Dl
  only : ∀ b, MD b → b = Dl ∨ M1 b
/-- what stands between two turns of a comprehension -/
structure LcI (K : PySem.W.Frag) (G : Cls) (S : Option Addr) (MD : Mu) (H1 : Hp) (Dl : Addr) (H : Hp) (acc : List D) : Prop where
  at_ : ∃ vs, H Dl = some (.lst vs) ∧ RpA K G S MD H vs acc
  fr : ∀ b o, H1 b = some o → S ≠ some b → b ≠ Dl → H b = some o
  src : ∀ a, S = some a → SrcOk MD H a
section
variable {K : PySem.W.Frag} {S : Option Addr} {H0 : Hp} {M0 : Mu} {σ : L2.St} {H1 H H' : Hp} {MD M1 M' : Mu} {ρ1 ρ' : En} {Dl : Addr} {acc : List D} {vs : List Nat}
theorem Bs.new (hD : H1 Dl = none) : Bs (fun b => M1 b ∨ b = Dl) M1 H1 Dl :=
  ⟨fun b o e n z => z.elim n (fun w => by rw [w, hD] at e; cases e), fun _ m => Or.inl m, Or.inr rfl, fun _ m => Or.symm m⟩
theorem LcI.start (R : Rep K G S H0 M0 ρ1 σ H1 M1) (hD : H1 Dl = none) : LcI K G S (fun b => M1 b ∨ b = Dl) H1 Dl (upd H1 Dl (.lst [])) [] := by
  have np : ∀ b o, H1 b = some o → b ≠ Dl := fun b o e z => by rw [z, hD] at e; cases e
  refine ⟨⟨[], upd_same, .nil⟩, fun b o e _ _ => by rw [upd_ne (np b o e)]; exact e, fun a ea => ?_⟩
  obtain ⟨⟨c, ns, pl, gr, tu, h1, h2, h3, h4⟩, m⟩ := R.src a ea
  exact ⟨c, ns, pl, gr, tu, by rw [upd_ne (np _ _ h1)]; exact h1, fun z => z.elim h2 (np _ _ h3), by rw [upd_ne (np _ _ h3)]; exact h3, h4⟩
theorem LcI.pre (L : LcI K G S MD H1 Dl H acc) (B : Bs MD M1 H1 Dl) (R : Rep K G S H0 M0 ρ1 σ H1 M1) : Pre M1 H1 MD H := fun b o e n =>
  have z := B.sub b o e n
  ⟨L.fr b o e (fun w => n (R.src b w).2) (fun w => z (by rw [w]; exact B.dl)), z⟩
theorem LcI.mt (L : LcI K G S MD H1 Dl H acc) (B : Bs MD M1 H1 Dl) (R : Rep K G S H0 M0 ρ1 σ H1 M1) : ∀ b, MD b → H b ≠ none := fun b m z => by
  by_cases eD : b = Dl
  · obtain ⟨_, h, _⟩ := L.at_
    rw [eD, h] at z; cases z
  · have m := (B.only b m).resolve_left eD
    by_cases e : S = some b
    · obtain ⟨c, ns, pl, gr, tu, h1, _⟩ := L.src b e
      rw [h1] at z; cases z
    · cases q : H1 b with
      | none => exact R.mt b m q
      | some o => rw [L.fr b o q e eD] at z; cases z
/-- the block's state, rebased -/
theorem LcI.rep (L : LcI K G S MD H1 Dl H acc) (B : Bs MD M1 H1 Dl) (R : Rep K G S H0 M0 ρ1 σ H1 M1) : Rep K G S H MD (blkEn ρ1 vs) (L2.wipe σ vs) H MD := by
  refine ⟨?_, fun i d e => ?_, fun i kd ds e => ?_, fun i j kd ld ds es p e1 => ?_, fun a ea => ⟨L.src a ea, B.up a (R.src a ea).2⟩, L.mt B R, L.mt B R, fun _ m => m, fun _ _ e _ => e⟩
  · rw [L2.wipe_length, R.len]
    unfold blkEn
    rw [wipeE_length, List.length_map]
  · obtain ⟨d', e1, e2, n⟩ := blkEn_some e
    cases e1
    obtain ⟨v, h1, h2⟩ := R.dat i d e2
    exact ⟨v, by rw [L2.wipe_out n]; exact h1, h2.pre (L.pre B R)⟩
  · obtain ⟨d', e1, _⟩ := blkEn_some e
    cases e1
  · obtain ⟨d', e2, _⟩ := blkEn_some e1
    cases e2
/-- a turn's end: nothing added -/
theorem LcI.keep (L : LcI K G S MD H1 Dl H acc) (nD : S ≠ some Dl) (hS : ∀ a, S = some a → MD a) {σ' : L2.St} (R' : Rep K G S H MD ρ' σ' H' M') : LcI K G S MD H1 Dl H' acc := by
  obtain ⟨vs, h1, h2⟩ := L.at_
  have pr : Pre MD H MD H' := fun b o e n => ⟨R'.fr b o e fun z => n (hS b z), n⟩
  exact ⟨⟨vs, R'.fr Dl _ h1 nD, h2.pre pr⟩, fun b o e n q => R'.fr b o (L.fr b o e n q) n, fun a ea => (R'.src a ea).1.mono R'.m0⟩
theorem LcI.push (L : LcI K G S MD H1 Dl H acc) (nD : S ≠ some Dl) (hS : ∀ a, S = some a → MD a) (hd : MD Dl) {σ' : L2.St} {v : V} {d : D} (R' : Rep K G S H MD ρ' σ' H' M') (r : Rp K G S M' H' v d) :
    ∃ vs, H' Dl = some (.lst vs) ∧ vs.length = acc.length ∧ LcI K G S MD H1 Dl (upd H' Dl (.lst (vs ++ [v]))) (acc ++ [d]) := by
  have L' := L.keep nD hS R'
  obtain ⟨vs, h1, h2⟩ := L'.at_
  have pr : Pre MD H' MD (upd H' Dl (.lst (vs ++ [v]))) := fun b o e n => ⟨by rw [upd_ne (show b ≠ Dl from fun z => n (by rw [z]; exact hd))]; exact e, n⟩
  have pm : Pre M' H' MD H' := fun b o e n => ⟨e, fun z => n (R'.m0 b z)⟩
  refine ⟨vs, h1, h2.length, ⟨vs ++ [v], upd_same, (h2.pre pr).append (.one ((r.pre pm).pre pr))⟩, fun b o e n q => ?_, fun a ea => ?_⟩
  · rw [upd_ne q]
    exact L'.fr b o e n q
  · exact (L'.src a ea).pre pr (upd_ne (fun z => nD (z ▸ ea)))
/-- the end -/
theorem LcI.done (L : LcI K G S (fun b => M1 b ∨ b = Dl) H1 Dl H acc) (R : Rep K G S H0 M0 ρ1 σ H1 M1) (hD : H1 Dl = none) : ∃ vs, H = upd (ers Dl H) Dl (.lst vs) ∧ Pre M1 H1 M1 (ers Dl H) ∧ Rep K G S H0 M0 ρ1 σ (ers Dl H) M1 ∧ RpA K G S M1 (ers Dl H) vs acc := by
  obtain ⟨vs, h1, h2⟩ := L.at_
  have pr : Pre (fun b => M1 b ∨ b = Dl) H M1 (ers Dl H) := fun b o e n => ⟨by rw [ers_ne (fun z => n (.inr z))]; exact e, fun z => n (.inl z)⟩
  have nD : S ≠ some Dl := fun e => R.mt Dl (R.src Dl e).2 hD
  have ne : ∀ b o, H1 b = some o → b ≠ Dl := fun b o e z => by rw [z, hD] at e; cases e
  obtain ⟨R2, p2⟩ := R.frame (H' := ers Dl H) (fun b o e n => by rw [ers_ne (ne b o e)]; exact L.fr b o e n (ne b o e)) (fun a ea => (L.src a ea).pre pr (ers_ne (fun z => nD (z ▸ ea))))
  exact ⟨vs, (upd_ers h1).symm, p2, R2, h2.pre pr⟩
end
/-- the tests of a clause, uniform over the blocks -/
def WTs (X : Cx) (G : Cls) (scope : Scope) (ifs : List Expr) (ρ : En) (Φ : Bool → En → Prop) : Prop := match ifs with
  | [] => Φ true ρ
  | [c] => ∀ s H C cl fp, WT (Bk X scope s H C cl fp) G c ρ Φ
  | _ => False
def tTs (X : Cx) (scope : Scope) (ifs : List Expr) : TT := match ifs with
  | [] => tYes
  | [c] => fun σ H Q => ∀ s H' C cl fp, mT (Bk X scope s H' C cl fp) c σ H Q
  | _ => fun _ _ _ => False
theorem pts_m (X : Cx) (scope : Scope) (ifs : List Expr) (s H C cl fp) : PTs (Bk X scope s H C cl fp) ifs (tTs X scope ifs) := by
  match ifs with
  | [] => exact pts_nil
  | [c] => exact pts_one ⟨fun pins s2 σ H2 Q I h => h s H C cl fp pins s2 I⟩
  | _ :: _ :: _ => exact ⟨fun _ _ _ _ _ _ h => h.elim⟩
theorem wts_run {ifs : List Expr} {ρ : En} {Φ : Bool → En → Prop} (h : WTs X G scope ifs ρ Φ) {S H0 M0 σ H M} (R : Rep X.K G S H0 M0 ρ σ H M) {Q : Bool → Hp → Prop}
    (k : ∀ b H' M' ρ', Pre M H M' H' → Rep X.K G S H0 M0 ρ' σ H' M' → Φ b ρ' → Q b H') : tTs X scope ifs σ H Q := by
  match ifs, h with
  | [], h => exact k true H M ρ (Pre.refl _ _) R h
  | [c], h => exact fun s H' C cl fp => h s H' C cl fp S H0 M0 σ H M R Q k
/-- the reading of a comprehension's target, tests, element, uniform over the blocks -/
def gBk (X : Cx) (scope : Scope) (tg : Expr) : TG := fun v σ H Q => ∀ s H' C cl fp, mG (Bk X scope s H' C cl fp) tg v σ H Q
def eBk (X : Cx) (scope : Scope) (elt : Expr) : TE := fun σ H Q => ∀ s H' C cl fp, mE (Bk X scope s H' C cl fp) elt σ H Q
def iBk (X : Cx) (scope : Scope) (tg iter : Expr) : TI := fun σ H Q => ∀ s H' C cl fp, mI (Bk X scope s H' C cl fp) tg iter σ H Q
/-- what a comprehension of one clause asks -/
def LcAsk (X : Cx) (G : Cls) (scope : Scope) (tg elt : Expr) (ifs : List Expr) (own : List (Str × Nat)) (Φ : List D → En → Prop) (ds : List D) (ρ1 : En) : Prop :=
  ds.length ≤ sizeLine ∧ ∃ J : Nat → List D → Prop, J 0 [] ∧
      (∀ k d acc, ds[k]? = some d → J k acc → ∀ s H C cl fp, WG (Bk X scope s H C cl fp) G (fun j => j ∈ own.map (·.2)) tg d (blkEn ρ1 (own.map (·.2))) fun ρ3 => WTs X G scope ifs ρ3 fun b ρ4 =>
        if b = true then ∀ s H C cl fp, WE (Bk X scope s H C cl fp) G elt ρ4 fun y _ => J (k + 1) (acc ++ [y]) else J (k + 1) acc) ∧ ∀ acc, J ds.length acc → Φ acc ρ1
theorem lc_read {ifs : List Expr} {Φ : List D → En → Prop} {S H0 M0 σ H M} (R : Rep X.K G S H0 M0 ρ σ H M) (h : WI X G tg iter ρ (LcAsk X G scope tg elt ifs own Φ)) {Q : VK}
    (kk : ∀ p vs H' M' ds ρ', Pre M H M' H' → Rep X.K G S H0 M0 ρ' σ H' M' → H' p = none → RpA X.K G S M' H' vs ds → Φ ds ρ' → Q (.ref p) (upd H' p (.lst vs))) :
    tLc (mI X tg iter) (gBk X scope tg) (tTs X scope ifs) (eBk X scope elt) (own.map (·.2)) σ H Q := by
  refine h S H0 M0 σ H M R _ fun It H1 M1 ds ρ1 p1 R1 it ⟨hz, J, j0, turn, fin⟩ => fun Dl hD => ?_
  have B : Bs (fun b => M1 b ∨ b = Dl) M1 H1 Dl := Bs.new hD
  have nD : S ≠ some Dl := fun e => R1.mt Dl (R1.src Dl e).2 hD
  have hS : ∀ a, S = some a → (M1 a ∨ a = Dl) := fun a ea => .inl (R1.src a ea).2
  refine ⟨fun i m H => m = ds.length - i ∧ i ≤ ds.length ∧ ∃ acc, acc.length ≤ i ∧ LcI X.K G S (fun b => M1 b ∨ b = Dl) H1 Dl H acc ∧ J i acc, ⟨ds.length, by simp, Nat.zero_le _, [], Nat.le_refl _, LcI.start R1 hD, j0⟩, ?_⟩
  rintro i m H2 ⟨rfl, hi, acc, hl, L, inv⟩
  have ii := it _ H2 (L.pre B R1) (L.mt B R1) i
  by_cases hlt : i < ds.length
  · obtain ⟨go, yl⟩ := ii.1 ds[i] (List.getElem?_eq_getElem hlt)
    refine .inr ⟨go, fun H' => ∃ acc, acc.length ≤ i + 1 ∧ LcI X.K G S (fun b => M1 b ∨ b = Dl) H1 Dl H' acc ∧ J (i + 1) acc, fun H' q => ⟨ds.length - (i + 1), by omega, rfl, hlt, q⟩, fun x H3 y => ?_⟩
    obtain ⟨sm, rx⟩ := yl x H3 y
    have R2 : Rep X.K G S H2 (fun b => M1 b ∨ b = Dl) (blkEn ρ1 (own.map (·.2))) (L2.wipe σ (own.map (·.2))) H3 (fun b => M1 b ∨ b = Dl) := (L.rep B R1).same sm
    intro s H' C cl fp
    refine turn i ds[i] acc (List.getElem?_eq_getElem hlt) inv s H' C cl fp S H2 _ _ H3 _ x R2 rx _ fun σ4 H4 M4 ρ4 c4 p4 R4 w4 => ⟨?_, ?_⟩
    · exact (wipe_chg c4).trans (wipe_chg (wipe_wipe σ _)).symm
    · refine wts_run w4 R4 fun b H5 M5 ρ5 p5 R5 w5 => ?_
      cases b with
      | true =>
        refine fun s H' C cl fp => w5 s H' C cl fp S H2 _ σ4 H5 M5 R5 _ fun v H6 M6 d ρ6 p6 R6 r6 w6 => ?_
        obtain ⟨ws, e1, e2, L'⟩ := L.push nD hS (.inr rfl) R6 r6
        exact ⟨ws, e1, by omega, acc ++ [d], by simp; omega, L', w6⟩
      | false => exact ⟨acc, by omega, L.keep nD hS R5, w5⟩
  · have e : i = ds.length := by omega
    subst e
    refine .inl ⟨ii.2 (Nat.le_refl _), ?_⟩
    obtain ⟨vs, e, p2, R2, r2⟩ := L.done R1 hD
    rw [e]
    exact kk Dl vs _ M1 acc ρ1 (p1.trans p2) R2 ers_same r2 (fin acc inv)
theorem wf_comp {ifs : List Expr} {Φ : List D → En → Prop} (hc : X.calm = true) (hN : X.N.Nodup) (ok : BlkOk X.N X.env.scope scope own) (hs : ∀ x, foldedSetIterable iter X.env x = pure x)
    (h : WI X G tg iter ρ (LcAsk X G scope tg elt ifs own Φ)) : WF X G (.ListComp elt [⟨tg, iter, ifs, 0⟩] scope pos) ρ Φ := fun S H0 M0 σ H M R Q kk =>
  mE_of (pe_lc (own := own) hc hN (pi_m X tg iter) ok (fun s H C cl fp => ⟨fun pins s2 σ H2 v u Q I r h => h s H C cl fp pins s2 u I r⟩) (fun s H C cl fp => pts_m X scope ifs s H C cl fp) (fun s H C cl fp => ⟨fun pins s2 σ H2 Q I h => h s H C cl fp pins s2 I⟩) hs)
    (lc_read R h kk)
/-- name = [..]: data; owned -/
theorem ws_setLc {ifs : List Expr} {P : Po} {i : Nat} {y : Str} {py spos : Pos} (hc : X.calm = true) (hN : X.N.Nodup) (hy : X.N[i]? = some y) (hyl : X.env.scope.names.lookup y = some .local)
    (hsw : swapsWith (.ListComp elt [⟨tg, iter, ifs, 0⟩] scope pos) (some (.Name y py)) spos.line X.env = pure true) (ok : BlkOk X.N X.env.scope scope own) (hs : ∀ x, foldedSetIterable iter X.env x = pure x)
    (h : WI X G tg iter ρ (LcAsk X G scope tg elt ifs own fun ds ρ' => P.nx (ρ'.set i (some (.dat (.lst ds)))))) : WS X G (.Assign [.Name y py] (.ListComp elt [⟨tg, iter, ifs, 0⟩] scope pos) spos) ρ P := fun S H0 M0 σ H M R E k =>
  mS_of (ps_setLc (own := own) hc hN hy hyl hsw (pi_m X tg iter) ok (fun s H C cl fp => ⟨fun pins s2 σ H2 v u Q I r h => h s H C cl fp pins s2 u I r⟩) (fun s H C cl fp => pts_m X scope ifs s H C cl fp) (fun s H C cl fp => ⟨fun pins s2 σ H2 Q I h => h s H C cl fp pins s2 I⟩) hs)
    (lc_read R h fun q vs H' M' ds ρ' p R' hq r w =>
      let ⟨R2, p2, n⟩ := R'.laid (o := .lst vs) hq
      k.nx _ _ M' _ (p.trans p2) (R2.set (.lst ⟨n, upd_same⟩ (r.pre p2))) w)
theorem ws_setLcO {ifs : List Expr} {P : Po} {i : Nat} {y : Str} {py spos : Pos} (hc : X.calm = true) (hN : X.N.Nodup) (hy : X.N[i]? = some y) (hyl : X.env.scope.names.lookup y = some .local)
    (hsw : swapsWith (.ListComp elt [⟨tg, iter, ifs, 0⟩] scope pos) (some (.Name y py)) spos.line X.env = pure true) (ok : BlkOk X.N X.env.scope scope own) (hs : ∀ x, foldedSetIterable iter X.env x = pure x)
    (h : WI X G tg iter ρ (LcAsk X G scope tg elt ifs own fun ds ρ' => P.nx (ρ'.set i (some (.own ds))))) : WS X G (.Assign [.Name y py] (.ListComp elt [⟨tg, iter, ifs, 0⟩] scope pos) spos) ρ P := fun S H0 M0 σ H M R E k =>
  mS_of (ps_setLc (own := own) hc hN hy hyl hsw (pi_m X tg iter) ok (fun s H C cl fp => ⟨fun pins s2 σ H2 v u Q I r h => h s H C cl fp pins s2 u I r⟩) (fun s H C cl fp => pts_m X scope ifs s H C cl fp) (fun s H C cl fp => ⟨fun pins s2 σ H2 Q I h => h s H C cl fp pins s2 I⟩) hs)
    (lc_read R h fun q vs H' M' ds ρ' p R' hq r w =>
      let ⟨R2, p2⟩ := R'.newOwn (i := i) hq r
      k.nx _ _ _ _ (p.trans p2) R2 w)
/-- two clauses -/
def LcAsk2 (X : Cx) (G : Cls) (scope : Scope) (tg tg1 iter1 elt : Expr) (ifs ifs1 : List Expr) (own : List (Str × Nat)) (vs1 : List Nat) (Φ : List D → En → Prop) (ds : List D) (ρ1 : En) : Prop :=
  ∃ J : Nat → List D → Prop, J 0 [] ∧
      (∀ k d acc, ds[k]? = some d → J k acc → ∀ s H C cl fp, WG (Bk X scope s H C cl fp) G (fun j => j ∈ own.map (·.2)) tg d (blkEn ρ1 (own.map (·.2))) fun ρ3 => WTs X G scope ifs ρ3 fun b ρ4 =>
        if b = true then ∀ s H C cl fp, WI (Bk X scope s H C cl fp) G tg1 iter1 ρ4 fun es ρ5 => ∃ J1 : Nat → List D → Prop, J1 0 acc ∧
          (∀ j e acc1, es[j]? = some e → J1 j acc1 → ∀ s H C cl fp, WG (Bk X scope s H C cl fp) G (fun j => j ∈ vs1) tg1 e (blkEn ρ5 vs1) fun ρ6 => WTs X G scope ifs1 ρ6 fun b1 ρ7 =>
            if b1 = true then ∀ s H C cl fp, WE (Bk X scope s H C cl fp) G elt ρ7 fun y _ => acc1.length < sizeLine ∧ J1 (j + 1) (acc1 ++ [y]) else J1 (j + 1) acc1) ∧ ∀ acc1, J1 es.length acc1 → J (k + 1) acc1
        else J (k + 1) acc) ∧ ∀ acc, J ds.length acc → Φ acc ρ1
theorem lc_read2 {tg1 iter1 : Expr} {ifs ifs1 : List Expr} {vs1 : List Nat} {Φ : List D → En → Prop} {S H0 M0 σ H M} (R : Rep X.K G S H0 M0 ρ σ H M) (h : WI X G tg iter ρ (LcAsk2 X G scope tg tg1 iter1 elt ifs ifs1 own vs1 Φ)) {Q : VK}
    (kk : ∀ p vs H' M' ds ρ', Pre M H M' H' → Rep X.K G S H0 M0 ρ' σ H' M' → H' p = none → RpA X.K G S M' H' vs ds → Φ ds ρ' → Q (.ref p) (upd H' p (.lst vs))) :
    tLc2 (mI X tg iter) (gBk X scope tg) (tTs X scope ifs) (iBk X scope tg1 iter1) (gBk X scope tg1) (tTs X scope ifs1) (eBk X scope elt) (own.map (·.2)) vs1 σ H Q := by
  refine h S H0 M0 σ H M R _ fun It H1 M1 ds ρ1 p1 R1 it ⟨J, j0, turn, fin⟩ => fun Dl hD => ?_
  have B : Bs (fun b => M1 b ∨ b = Dl) M1 H1 Dl := Bs.new hD
  have nD : S ≠ some Dl := fun e => R1.mt Dl (R1.src Dl e).2 hD
  have hS : ∀ a, S = some a → (M1 a ∨ a = Dl) := fun a ea => .inl (R1.src a ea).2
  refine ⟨fun i m H => m = ds.length - i ∧ i ≤ ds.length ∧ ∃ acc, LcI X.K G S (fun b => M1 b ∨ b = Dl) H1 Dl H acc ∧ J i acc, ⟨ds.length, by simp, Nat.zero_le _, [], LcI.start R1 hD, j0⟩, ?_⟩
  rintro i m H2 ⟨rfl, hi, acc, L, inv⟩
  have ii := it _ H2 (L.pre B R1) (L.mt B R1) i
  by_cases hlt : i < ds.length
  · obtain ⟨go, yl⟩ := ii.1 ds[i] (List.getElem?_eq_getElem hlt)
    refine .inr ⟨go, fun H' => ∃ acc, LcI X.K G S (fun b => M1 b ∨ b = Dl) H1 Dl H' acc ∧ J (i + 1) acc, fun H' q => ⟨ds.length - (i + 1), by omega, rfl, hlt, q⟩, fun x H3 y => ?_⟩
    obtain ⟨sm, rx⟩ := yl x H3 y
    have R2 : Rep X.K G S H2 (fun b => M1 b ∨ b = Dl) (blkEn ρ1 (own.map (·.2))) (L2.wipe σ (own.map (·.2))) H3 (fun b => M1 b ∨ b = Dl) := (L.rep B R1).same sm
    intro s H' C cl fp
    refine turn i ds[i] acc (List.getElem?_eq_getElem hlt) inv s H' C cl fp S H2 _ _ H3 _ x R2 rx _ fun σ4 H4 M4 ρ4 c4 p4 R4 w4 => ⟨?_, ?_⟩
    · exact (wipe_chg c4).trans (wipe_chg (wipe_wipe σ _)).symm
    · refine wts_run w4 R4 fun b H5 M5 ρ5 p5 R5 w5 => ?_
      cases b with
      | true =>
        refine fun s H' C cl fp => w5 s H' C cl fp S H2 _ σ4 H5 M5 R5 _ fun It1 H6 M6 es ρ6 p6 R6 it1 ⟨J1, j10, turn1, fin1⟩ => ?_
        -- the inner loop over (M6, H6)
        have m6 : M6 Dl := R6.m0 Dl (.inr rfl)
        have B6 : Bs M6 M6 H6 Dl := ⟨fun _ _ _ n => n, fun _ z => z, m6, fun _ z => .inr z⟩
        have hS6 : ∀ a, S = some a → M6 a := fun a ea => (R6.src a ea).2
        have L6 : LcI X.K G S M6 H6 Dl H6 acc := by
          obtain ⟨vs, h1, h2⟩ := L.at_
          have pr : Pre (fun b => M1 b ∨ b = Dl) H2 M6 H6 := ((pre_of_same sm).trans p4).trans (p5.trans p6)
          exact ⟨⟨vs, R6.fr Dl _ h1 nD, h2.pre pr⟩, fun b o e _ _ => e, fun a ea => (R6.src a ea).1⟩
        refine ⟨fun j m H => m = es.length - j ∧ j ≤ es.length ∧ ∃ acc, LcI X.K G S M6 H6 Dl H acc ∧ J1 j acc, ⟨es.length, by simp, Nat.zero_le _, acc, L6, j10⟩, ?_⟩
        rintro j k H7 ⟨rfl, hj, acc1, L7, inv1⟩
        have jj := it1 _ H7 (L7.pre B6 R6) (L7.mt B6 R6) j
        by_cases hjl : j < es.length
        · obtain ⟨go1, yl1⟩ := jj.1 es[j] (List.getElem?_eq_getElem hjl)
          refine .inr ⟨go1, fun H' => ∃ acc, LcI X.K G S M6 H6 Dl H' acc ∧ J1 (j + 1) acc, fun H' q => ⟨es.length - (j + 1), by omega, rfl, hjl, q⟩, fun x1 H8 y1 => ?_⟩
          obtain ⟨sm1, rx1⟩ := yl1 x1 H8 y1
          have R8 : Rep X.K G S H7 M6 (blkEn ρ6 vs1) (L2.wipe σ4 vs1) H8 M6 := (L7.rep B6 R6).same sm1
          intro s H' C cl fp
          refine turn1 j es[j] acc1 (List.getElem?_eq_getElem hjl) inv1 s H' C cl fp S H7 _ _ H8 _ x1 R8 rx1 _ fun σ9 H9 M9 ρ9 c9 p9 R9 w9 => ⟨?_, ?_⟩
          · exact (wipe_chg c9).trans (wipe_chg (wipe_wipe σ4 _)).symm
          · refine wts_run w9 R9 fun b1 H10 M10 ρ10 p10 R10 w10 => ?_
            cases b1 with
            | true =>
              refine fun s H' C cl fp => w10 s H' C cl fp S H7 _ σ9 H10 M10 R10 _ fun v H11 M11 d ρ11 p11 R11 r11 w11 => ?_
              obtain ⟨ws, e1, e2, L'⟩ := L7.push nD hS6 m6 R11 r11
              exact ⟨ws, e1, by rw [e2]; exact w11.1, acc1 ++ [d], L', w11.2⟩
            | false => exact ⟨acc1, L7.keep nD hS6 R10, w10⟩
        · have e : j = es.length := by omega
          subst e
          refine .inl ⟨jj.2 (Nat.le_refl _), acc1, ?_, fin1 acc1 inv1⟩
          obtain ⟨vs, h1, h2⟩ := L7.at_
          have pm : Pre M6 H7 (fun b => M1 b ∨ b = Dl) H7 := fun b o e n => ⟨e, fun z => n (R6.m0 b z)⟩
          refine ⟨⟨vs, h1, h2.pre pm⟩, fun b o e n q => L7.fr b o (R6.fr b o (L.fr b o e n q) n) n q, fun a ea => (L7.src a ea).mono R6.m0⟩
      | false => exact ⟨acc, L.keep nD hS R5, w5⟩
  · have e : i = ds.length := by omega
    subst e
    refine .inl ⟨ii.2 (Nat.le_refl _), ?_⟩
    obtain ⟨vs, e, p2, R2, r2⟩ := L.done R1 hD
    rw [e]
    exact kk Dl vs _ M1 acc ρ1 (p1.trans p2) R2 ers_same r2 (fin acc inv)
theorem wf_comp2 {tg1 iter1 : Expr} {ifs ifs1 : List Expr} {vs1 : List Nat} {Φ : List D → En → Prop} (hc : X.calm = true) (hN : X.N.Nodup) (ok : BlkOk X.N X.env.scope scope own) (hv : ∀ i ∈ vs1, i ∈ own.map (·.2)) (hs : ∀ x, foldedSetIterable iter X.env x = pure x) (hs1 : ∀ env x, foldedSetIterable iter1 env x = pure x)
    (h : WI X G tg iter ρ (LcAsk2 X G scope tg tg1 iter1 elt ifs ifs1 own vs1 Φ)) : WF X G (.ListComp elt [⟨tg, iter, ifs, 0⟩, ⟨tg1, iter1, ifs1, 0⟩] scope pos) ρ Φ := fun S H0 M0 σ H M R Q kk =>
  mE_of (pe_lc2 (own := own) hc hN (pi_m X tg iter) ok hv (fun s H C cl fp => ⟨fun pins s2 σ H2 v u Q I r h => h s H C cl fp pins s2 u I r⟩) (fun s H C cl fp => pts_m X scope ifs s H C cl fp)
    (fun s H C cl fp => ⟨fun pins s2 σ H2 R2 I h => h s H C cl fp pins s2 I⟩) (fun s H C cl fp => ⟨fun pins s2 σ H2 v u Q I r h => h s H C cl fp pins s2 u I r⟩) (fun s H C cl fp => pts_m X scope ifs1 s H C cl fp) (fun s H C cl fp => ⟨fun pins s2 σ H2 Q I h => h s H C cl fp pins s2 I⟩) hs hs1)
    (lc_read2 R h kk)
theorem ws_setLc2 {tg1 iter1 : Expr} {ifs ifs1 : List Expr} {vs1 : List Nat} {P : Po} {i : Nat} {y : Str} {py spos : Pos} (hc : X.calm = true) (hN : X.N.Nodup) (hy : X.N[i]? = some y) (hyl : X.env.scope.names.lookup y = some .local)
    (hsw : swapsWith (.ListComp elt [⟨tg, iter, ifs, 0⟩, ⟨tg1, iter1, ifs1, 0⟩] scope pos) (some (.Name y py)) spos.line X.env = pure true) (ok : BlkOk X.N X.env.scope scope own) (hv : ∀ i ∈ vs1, i ∈ own.map (·.2)) (hs : ∀ x, foldedSetIterable iter X.env x = pure x) (hs1 : ∀ env x, foldedSetIterable iter1 env x = pure x)
    (h : WI X G tg iter ρ (LcAsk2 X G scope tg tg1 iter1 elt ifs ifs1 own vs1 fun ds ρ' => P.nx (ρ'.set i (some (.dat (.lst ds)))))) : WS X G (.Assign [.Name y py] (.ListComp elt [⟨tg, iter, ifs, 0⟩, ⟨tg1, iter1, ifs1, 0⟩] scope pos) spos) ρ P := fun S H0 M0 σ H M R E k =>
  mS_of (ps_setLc2 (own := own) hc hN hy hyl hsw (pi_m X tg iter) ok hv (fun s H C cl fp => ⟨fun pins s2 σ H2 v u Q I r h => h s H C cl fp pins s2 u I r⟩) (fun s H C cl fp => pts_m X scope ifs s H C cl fp)
    (fun s H C cl fp => ⟨fun pins s2 σ H2 R2 I h => h s H C cl fp pins s2 I⟩) (fun s H C cl fp => ⟨fun pins s2 σ H2 v u Q I r h => h s H C cl fp pins s2 u I r⟩) (fun s H C cl fp => pts_m X scope ifs1 s H C cl fp) (fun s H C cl fp => ⟨fun pins s2 σ H2 Q I h => h s H C cl fp pins s2 I⟩) hs hs1)
    (lc_read2 R h fun q vs H' M' ds ρ' p R' hq r w =>
      let ⟨R2, p2, n⟩ := R'.laid (o := .lst vs) hq
      k.nx _ _ M' _ (p.trans p2) (R2.set (.lst ⟨n, upd_same⟩ (r.pre p2))) w)
end
end DL

namespace DL
open PySem PySem.Spec PyProof.Rows L2

/-! ## defs and their contracts -/
abbrev DSpec := List D → (D → Prop) → Prop
/-- a def's promise on data: from the arguments ds, for each Ψ that the spec grants, the value is data of which Ψ holds; only the source may have changed -/
def SpD (K : PySem.W.Frag) (G : Cls) (spec : DSpec) : Sp := fun vs H Q _ => ∃ (S : Option Addr) (M : Mu) (ds : List D) (Ψ : D → Prop), (∀ b, M b → H b ≠ none) ∧ (∀ a, S = some a → SrcOk M H a ∧ M a) ∧ RpA K G S M H vs ds ∧ spec ds Ψ ∧
  ∀ v H' d, (∀ b o, H b = some o → S ≠ some b → H' b = some o) → (∀ a, S = some a → SrcOk M H' a) → Rp K G S M H' v d → Ψ d → Q v H'
/-- the def x of the module keeps its spec, for calls with n arguments -/
structure Fd (P : Program) (w : World) (K : PySem.W.Frag) (mg : Str → Option Value) (base : Heap) (G : Cls) (k : Nat) (x : Str) (n : Nat) (spec : DSpec) : Prop where
  ex : ∃ (f : Addr) (fd : FuncData) (ps : List Str), mg x = some (.ref f) ∧ PySem.W.keepIn K (.ref f) = true ∧ Binds K fd ps [] ∧ ps.length = n ∧ FnOk P w K mg base CX0 k f fd ps (SpD K G spec)
theorem Fd.mono {P w K mg base G j k x n spec} (F : Fd P w K mg base G j x n spec) (h : j ≤ k) : Fd P w K mg base G k x n spec :=
  let ⟨f, fd, ps, h1, h2, h3, h4, h5⟩ := F.ex
  ⟨f, fd, ps, h1, h2, h3, h4, h5.mono h⟩

section
variable {X : Cx} {G : Cls} {ρ : En} {pos p : Pos} {e : Expr} {es : List Expr} {x : Str}
/-- a call's result, back in the body -/
theorem spd_of {spec : DSpec} {S H0 M0 σ H M} (R : Rep X.K G S H0 M0 ρ σ H M) {vs : List V} {ds : List D} (r : RpA X.K G S M H vs ds) {Ψ : D → Prop} (h : spec ds Ψ) {Q : VK} {E : XK}
    (k : ∀ v H' M' d, Pre M H M' H' → Rep X.K G S H0 M0 ρ σ H' M' → Rp X.K G S M' H' v d → Ψ d → Q v H') : SpD X.K G spec vs H Q E :=
  ⟨S, M, ds, Ψ, R.mt, R.src, r, h, fun v H' d fr sr rv w =>
    let ⟨R2, p2⟩ := R.frame fr sr
    k v H' M d p2 R2 rv w⟩
theorem we_call {k n : Nat} {spec : DSpec} {Φ : D → En → Prop} (F : Fd X.prog X.w X.K X.mg X.base G k x n spec) (hr : Room k X.A) (hg : Gl X x) (hdb : (x == ("__debug__" : Str)) = false)
    (he : starEach (e :: es) X.env = (false, eval e X.env) :: starEach es X.env) (hpl : (backTo pos (starEach es X.env)).any (·.1) = false)
    (h : WA X G (e :: es) ρ fun ds ρ1 => spec ds fun d => Φ d ρ1) : WE X G (.Call (.Name x p) (e :: es) [] pos) ρ Φ := fun S H0 M0 σ H M R Q kk => by
  obtain ⟨f, fd, ps, h1, h2, h3, h4, h5⟩ := F.ex
  refine mE_of (pe_call (E := E0) h5 hr hg h1 h2 h3 .nil pass0 (pa_m X (e :: es)) hdb he hpl) (h S H0 M0 σ H M R _ fun vs H1 M1 ds ρ1 p1 R1 r1 w1 => ?_)
  rw [List.append_nil]
  exact spd_of R1 r1 w1 fun v H' M' d p2 R2 r2 w2 => kk v H' M' d ρ1 (p1.trans p2) R2 r2 w2
/-- (f()) -/
theorem we_call0 {k n : Nat} {spec : DSpec} {Φ : D → En → Prop} (F : Fd X.prog X.w X.K X.mg X.base G k x n spec) (hr : Room k X.A) (hg : Gl X x) (hdb : (x == ("__debug__" : Str)) = false)
    (h : spec [] fun d => Φ d ρ) : WE X G (.Call (.Name x p) [] [] pos) ρ Φ := fun S H0 M0 σ H M R Q kk => by
  obtain ⟨f, fd, ps, h1, h2, h3, h4, h5⟩ := F.ex
  refine mE_of (pe_call0 (E := E0) h5 hr hg h1 h2 h3 .nil pass0 hdb) ?_
  show SpD X.K G spec ([] ++ []) H Q E0
  exact spd_of (vs := []) R .nil h fun v H' M' d p2 R2 r2 w2 => kk v H' M' d ρ p2 R2 r2 w2
end

/-- the names' data at the entry -/
def startE (N : List Str) (ds : List D) : En := ds.map (fun d => some (.dat d)) ++ List.replicate (N.length - ds.length) none
theorem start_rep {K : PySem.W.Frag} {G : Cls} {S : Option Addr} {M : Mu} {H : Hp} {N : List Str} {vs : List V} {ds : List D} (mt : ∀ b, M b → H b ≠ none) (sr : ∀ a, S = some a → SrcOk M H a ∧ M a) (r : RpA K G S M H vs ds) :
    Rep K G S H M (startE N ds) (start N vs) H M := by
  have hl := r.length
  have key : ∀ (i : Nat) (y : EV), (startE N ds)[i]? = some (some y) → ∃ d, ds[i]? = some d ∧ y = .dat d := fun i y e => by
    unfold startE at e
    by_cases hi : i < ds.length
    · rw [List.getElem?_append_left (by simpa using hi), List.getElem?_map] at e
      cases q : ds[i]? with
      | none => rw [q] at e; cases e
      | some d => rw [q] at e; cases e; exact ⟨d, rfl, rfl⟩
    · rw [List.getElem?_append_right (by simpa using hi), List.getElem?_replicate] at e
      split at e <;> cases e
  refine ⟨?_, fun i d e => ?_, fun i kd es e => ?_, fun i j kd ld es fs p e => ?_, sr, mt, mt, fun _ m => m, fun _ _ e _ => e⟩
  · unfold L2.start startE
    rw [List.length_append, List.length_append, List.length_map, List.length_map, List.length_replicate, List.length_replicate, hl]
  · obtain ⟨d', h1, h2⟩ := key i _ e
    cases h2
    obtain ⟨v, hv, rv⟩ := r.get h1
    refine ⟨v, ?_, rv⟩
    unfold L2.start
    rw [List.getElem?_append_left (by rw [List.length_map]; exact (List.getElem?_eq_some_iff.mp hv).1), List.getElem?_map, hv]
    rfl
  · obtain ⟨d', h1, h2⟩ := key i _ e
    cases h2
  · obtain ⟨d', h1, h2⟩ := key i _ e
    cases h2

section
variable {P : Program} {w : World} {K : PySem.W.Frag} {mg : Str → Option Value} {base : Heap} {G : Cls}
/-- the context of a def's body -/
abbrev CtD (P : Program) (w : World) (K : PySem.W.Frag) (mg : Str → Option Value) (base : Heap) (N : List Str) (qual : Str) (st : Stmt) (f : Addr) (cdv : Value) (A : Around) (outer : List Env) (s : Shared) (H : Hp) (E : XK) : Cx :=
  (cxOf CX0 P w K mg base N qual (defScope st) f cdv A outer s H E).nox
/-- the body of a def keeps its spec, wherever it is called with room for k calls -/
def BodyOk (P : Program) (w : World) (K : PySem.W.Frag) (mg : Str → Option Value) (base : Heap) (G : Cls) (k : Nat) (N : List Str) (qual : Str) (st : Stmt) (spec : DSpec) : Prop :=
  ∀ (f : Addr) (cdv : Value) (A : Around) (outer : List Env) (s : Shared) (H : Hp) (E : XK), Room k (CtD P w K mg base N qual st f cdv A outer s H E).A → ∀ ds Ψ, spec ds Ψ →
    WSs (CtD P w K mg base N qual st f cdv A outer s H E) G (defBody st) (startE N ds) { nx := fun _ => Ψ .non, rt := Ψ }
theorem fn_body {x qual : Str} {st : Stmt} {f : Addr} {fd : FuncData} {N ps : List Str} {k : Nat} {spec : DSpec} (F : Fun K x qual st f fd) (S : FnScope N ps (defScope st)) (len : ∀ ds Ψ, spec ds Ψ → ds.length = ps.length)
    (body : BodyOk P w K mg base G k N qual st spec) : FnOk P w K mg base CX0 (k + 1) f fd ps (SpD K G spec) := by
  refine F.ok S (fun vs H Q E h => ?_) (fun cdv A outer s H vs Q E hr h => ?_)
  · obtain ⟨S, M, ds, Ψ, _, _, r, hs, _⟩ := h
    rw [r.length]
    exact len ds Ψ hs
  · obtain ⟨So, M, ds, Ψ, mt, sr, r, hs, q⟩ := h
    refine ⟨_, pss_m _ _, ?_⟩
    refine body f cdv A outer s H E hr ds Ψ hs So H M _ H M (start_rep mt sr r) _ ?_
    exact ⟨fun σ' H' M' ρ' p R' w => q .non H' .non (fun b o e n => R'.fr b o e n) (fun a ea => (R'.src a ea).1.mono R'.m0) .non w,
      fun v σ' H' M' d ρ' p R' rv w => q v H' d (fun b o e n => R'.fr b o e n) (fun a ea => (R'.src a ea).1.mono R'.m0) (rv.pre fun b o e n => ⟨e, fun z => n (R'.m0 b z)⟩) w,
      fun _ _ _ _ _ _ w => w.elim, fun _ _ _ _ _ _ w => w.elim⟩
theorem fd_mk {x qual : Str} {st : Stmt} {f : Addr} {fd : FuncData} {N ps : List Str} {k n : Nat} {spec : DSpec} (F : Fun K x qual st f fd) (hm : mg x = some (.ref f)) (hb : Binds K fd ps []) (hn : ps.length = n) (S : FnScope N ps (defScope st)) (len : ∀ ds Ψ, spec ds Ψ → ds.length = ps.length)
    (body : BodyOk P w K mg base G k N qual st spec) : Fd P w K mg base G (k + 1) x n spec :=
  ⟨f, fd, ps, hm, F.kp, hb, hn, fn_body F S len body⟩
/-- how a module's def stands behind the top -/
structure Tp (K : PySem.W.Frag) (mg : Str → Option Value) (x : Str) (st : Stmt) (ps : List Str) : Prop where
  ex : ∃ (f : Addr) (fd : FuncData), Fun K x x st f fd ∧ mg x = some (.ref f) ∧ Binds K fd ps []
theorem Tp.fd {x : Str} {st : Stmt} {N ps : List Str} {k n : Nat} {spec : DSpec} (T : Tp K mg x st ps) (hn : ps.length = n) (S : FnScope N ps (defScope st)) (len : ∀ ds Ψ, spec ds Ψ → ds.length = ps.length)
    (body : BodyOk P w K mg base G k N x st spec) : Fd P w K mg base G (k + 1) x n spec :=
  let ⟨f, fd, h1, h2, h3⟩ := T.ex
  fd_mk h1 h2 h3 hn S len body
theorem Fd.weak {k x n} {spec spec' : DSpec} (F : Fd P w K mg base G k x n spec) (h : ∀ ds Ψ, spec' ds Ψ → spec ds Ψ) : Fd P w K mg base G k x n spec' :=
  let ⟨f, fd, ps, h1, h2, h3, h4, h5⟩ := F.ex
  ⟨f, fd, ps, h1, h2, h3, h4, h5.imp fun vs H Q E ⟨S, M, ds, Ψ, q1, q2, q3, q4, q5⟩ => ⟨S, M, ds, Ψ, q1, q2, q3, h ds Ψ q4, q5⟩⟩
end
end DL

namespace DL
open PySem PySem.Spec PyProof.Rows L2

section
variable {X : Cx} {G : Cls} {ρ ρ1 : En} {pos : Pos} {tg iter elt : Expr} {scope : Scope} {own : List (Str × Nat)} {Φ : List D → En → Prop} {ds : List D} {α : Type}
/-- [g x for x in L] -/
theorem lcask_map (L : List α) (f g : α → D) (hds : ds = L.map f) (hz : L.length ≤ sizeLine)
    (turn : ∀ (k : Nat) x, L[k]? = some x → ∀ s H C cl fp, WG (Bk X scope s H C cl fp) G (fun j => j ∈ own.map (·.2)) tg (f x) (blkEn ρ1 (own.map (·.2))) fun ρ3 => ∀ s H C cl fp, WE (Bk X scope s H C cl fp) G elt ρ3 fun y _ => y = g x)
    (fin : Φ (L.map g) ρ1) : LcAsk X G scope tg elt [] own Φ ds ρ1 := by
  subst hds
  refine ⟨by simpa using hz, fun k acc => acc = (L.take k).map g, by simp, fun k d acc hd hJ s H C cl fp => ?_, fun acc hJ => ?_⟩
  · rw [List.getElem?_map] at hd
    cases q : L[k]? with
    | none => rw [q] at hd; cases hd
    | some x =>
      rw [q] at hd
      cases hd
      have t := turn k x q s H C cl fp
      intro S H0 M0 σ H' M v R r Q kk
      refine t S H0 M0 σ H' M v R r Q fun σ' H'' M' ρ' c p R' w => kk σ' H'' M' ρ' c p R' ?_
      show ∀ s H C cl fp, WE (Bk X scope s H C cl fp) G elt ρ' _
      intro s H C cl fp
      refine we_mono (w s H C cl fp) fun d ρ' e => ?_
      subst e
      rw [hJ, List.take_add_one, q, List.map_append]
      rfl
  · rw [hJ]
    simpa using fin
/-- [g x for x in L if p x] -/
theorem lcask_filt {c : Expr} (L : List α) (f g : α → D) (p : α → Bool) (hds : ds = L.map f) (hz : L.length ≤ sizeLine)
    (turn : ∀ (k : Nat) x, L[k]? = some x → ∀ s H C cl fp, WG (Bk X scope s H C cl fp) G (fun j => j ∈ own.map (·.2)) tg (f x) (blkEn ρ1 (own.map (·.2))) fun ρ3 => ∀ s H C cl fp, WT (Bk X scope s H C cl fp) G c ρ3 fun b ρ4 =>
      b = p x ∧ (p x = true → ∀ s H C cl fp, WE (Bk X scope s H C cl fp) G elt ρ4 fun y _ => y = g x))
    (fin : Φ ((L.filter p).map g) ρ1) : LcAsk X G scope tg elt [c] own Φ ds ρ1 := by
  subst hds
  refine ⟨by simpa using hz, fun k acc => acc = ((L.take k).filter p).map g, by simp, fun k d acc hd hJ s H C cl fp => ?_, fun acc hJ => ?_⟩
  · rw [List.getElem?_map] at hd
    cases q : L[k]? with
    | none => rw [q] at hd; cases hd
    | some x =>
      rw [q] at hd
      cases hd
      have t := turn k x q s H C cl fp
      intro S H0 M0 σ H' M v R r Q kk
      refine t S H0 M0 σ H' M v R r Q fun σ' H'' M' ρ' c' p' R' w => kk σ' H'' M' ρ' c' p' R' ?_
      show ∀ s H C cl fp, WT (Bk X scope s H C cl fp) G c ρ' _
      intro s H C cl fp
      refine wt_mono (w s H C cl fp) fun b ρ' ⟨e, w⟩ => ?_
      subst e
      have key : ((L.take (k + 1)).filter p).map g = acc ++ (if p x = true then [g x] else []) := by
        rw [hJ, List.take_add_one, q, List.filter_append, List.map_append]
        by_cases hp : p x = true
        · simp [hp]
        · simp [hp]
      refine ite2 (fun hp => ?_) (fun hp => ?_)
      · intro s H C cl fp
        refine we_mono (w hp s H C cl fp) fun d ρ' e => ?_
        subst e
        show acc ++ [g x] = ((L.take (k + 1)).filter p).map g
        rw [key, if_pos hp]
      · show acc = ((L.take (k + 1)).filter p).map g
        rw [key, if_neg hp, List.append_nil]
  · rw [hJ]
    simpa using fin
/-- a list of drawn things -/
theorem lcask_rel (L : List α) (f : α → D) (R : α → D → Prop) (hds : ds = L.map f) (hz : L.length ≤ sizeLine)
    (turn : ∀ (k : Nat) x, L[k]? = some x → ∀ s H C cl fp, WG (Bk X scope s H C cl fp) G (fun j => j ∈ own.map (·.2)) tg (f x) (blkEn ρ1 (own.map (·.2))) fun ρ3 => ∀ s H C cl fp, WE (Bk X scope s H C cl fp) G elt ρ3 fun y _ => R x y)
    (fin : ∀ ys : List D, ys.length = L.length → (∀ (k : Nat) x y, L[k]? = some x → ys[k]? = some y → R x y) → Φ ys ρ1) : LcAsk X G scope tg elt [] own Φ ds ρ1 := by
  subst hds
  refine ⟨by simpa using hz, fun k acc => acc.length = min k L.length ∧ ∀ (j : Nat) x y, L[j]? = some x → acc[j]? = some y → R x y, ⟨by simp, fun j x y _ e => by simp at e⟩, fun k d acc hd hJ s H C cl fp => ?_, fun acc hJ => fin acc ?_ hJ.2⟩
  · rw [List.getElem?_map] at hd
    cases q : L[k]? with
    | none => rw [q] at hd; cases hd
    | some x =>
      rw [q] at hd
      cases hd
      have hk : k < L.length := (List.getElem?_eq_some_iff.mp q).1
      have t := turn k x q s H C cl fp
      intro S H0 M0 σ H' M v R' r Q kk
      refine t S H0 M0 σ H' M v R' r Q fun σ' H'' M' ρ' c p R' w => kk σ' H'' M' ρ' c p R' ?_
      show ∀ s H C cl fp, WE (Bk X scope s H C cl fp) G elt ρ' _
      intro s H C cl fp
      refine we_mono (w s H C cl fp) fun d ρ' e => ⟨by rw [List.length_append, hJ.1, List.length_singleton]; omega, fun j x' y h1 h2 => ?_⟩
      by_cases hj : j < acc.length
      · rw [List.getElem?_append_left hj] at h2
        exact hJ.2 j x' y h1 h2
      · rw [List.getElem?_append_right (by omega)] at h2
        have hl := hJ.1
        by_cases h0 : j - acc.length = 0
        · rw [h0] at h2
          cases h2
          have : j = k := by omega
          subst this
          rw [q] at h1
          cases h1
          exact e
        · rw [List.getElem?_eq_none (by simp; omega)] at h2
          cases h2
  · rw [hJ.1, List.length_map]
    omega
/-- a for over typed items, by an invariant over the part taken -/
theorem for_typed {body : List Stmt} {P : Po} (L : List α) (f : α → D) (I : List α → En → Prop) (hds : ds = L.map f) (h0 : I [] ρ1)
    (turn : ∀ pre x post ρ2, L = pre ++ x :: post → I pre ρ2 → WG X G (fun _ => True) tg (f x) ρ2 fun ρ3 => WSs X G body ρ3 { P with nx := I (pre ++ [x]), ct := I (pre ++ [x]), bk := P.nx })
    (fin : ∀ ρ2, I L ρ2 → P.nx ρ2) : ∃ I : Nat → En → Prop, I 0 ρ1 ∧
      (∀ k d ρ2, ds[k]? = some d → I k ρ2 → WG X G (fun _ => True) tg d ρ2 fun ρ3 => WSs X G body ρ3 { P with nx := I (k + 1), ct := I (k + 1), bk := P.nx }) ∧ ∀ ρ2, I ds.length ρ2 → P.nx ρ2 := by
  subst hds
  refine ⟨fun k ρ2 => I (L.take k) ρ2, h0, fun k d ρ2 hd hI => ?_, fun ρ2 hI => fin ρ2 (by simpa using hI)⟩
  rw [List.getElem?_map] at hd
  cases q : L[k]? with
  | none => rw [q] at hd; cases hd
  | some x =>
    rw [q] at hd
    cases hd
    have hk := (List.getElem?_eq_some_iff.mp q).1
    have e : L = L.take k ++ x :: L.drop (k + 1) := by
      have : L[k] = x := (List.getElem?_eq_some_iff.mp q).2
      rw [← this, ← List.drop_eq_getElem_cons hk, List.take_append_drop]
    have e2 : L.take (k + 1) = L.take k ++ [x] := by rw [List.take_add_one, q]; rfl
    show WG X G (fun _ => True) tg (f x) ρ2 fun ρ3 => WSs X G body ρ3 { P with nx := fun ρ2 => I (L.take (k + 1)) ρ2, ct := fun ρ2 => I (L.take (k + 1)) ρ2, bk := P.nx }
    rw [e2]
    exact turn (L.take k) x _ ρ2 e hI
end
theorem zipD_map {α β : Type} (f : α → D) (g : β → D) (xs : List α) (ys : List β) : zipD (xs.map f) (ys.map g) = (xs.zip ys).map fun p => .tup [f p.1, g p.2] := by
  unfold zipD
  rw [List.zip_map, List.map_map]
  rfl
theorem rngD_map (lo : Int) (n : Nat) : rngD lo n = (List.range n).map fun i => .int (lo + (i : Nat)) := rfl
theorem atI_map {α β : Type} (f : α → β) (xs : List α) (i : Int) : L2.atI (xs.map f) i = (L2.atI xs i).map f := by
  unfold L2.atI
  rw [List.length_map]
  cases ixN xs.length i with
  | none => rfl
  | some j => simp
theorem sz_le {n : Nat} (h : n ≤ 1000000) : n ≤ sizeLine := by rw [sizeLine_eq]; omega
theorem sz_lt {n : Nat} (h : n ≤ 1000000) : n < sizeLine := by rw [sizeLine_eq]; omega
end DL

namespace DL
open PySem PySem.Spec PyProof.Rows L2
theorem bt_len : bootBuiltins "len" = some (.builtin "len") := by decide +kernel
theorem bt_all : bootBuiltins "all" = some (.builtin "all") := by decide +kernel
theorem bt_any : bootBuiltins "any" = some (.builtin "any") := by decide +kernel
theorem bt_sum : bootBuiltins "sum" = some (.builtin "sum") := by decide +kernel
theorem bt_max : bootBuiltins "max" = some (.builtin "max") := by decide +kernel
theorem bt_min : bootBuiltins "min" = some (.builtin "min") := by decide +kernel
theorem bt_isinstance : bootBuiltins "isinstance" = some (.builtin "isinstance") := by decide +kernel
theorem bt_sorted : bootBuiltins "sorted" = some (.builtin "sorted") := by decide +kernel
theorem bt_abs : bootBuiltins "abs" = some (.builtin "abs") := by decide +kernel
theorem bt_repr : bootBuiltins "repr" = some (.builtin "repr") := by decide +kernel
theorem bt_tuple : bootBuiltins "tuple" = some (.type "tuple") := by decide +kernel
theorem bt_list : bootBuiltins "list" = some (.type "list") := by decide +kernel
theorem bt_int : bootBuiltins "int" = some (.type "int") := by decide +kernel
theorem bt_bool : bootBuiltins "bool" = some (.type "bool") := by decide +kernel
theorem bt_str : bootBuiltins "str" = some (.type "str") := by decide +kernel
theorem bt_dict : bootBuiltins "dict" = some (.type "dict") := by decide +kernel
theorem bt_set : bootBuiltins "set" = some (.type "set") := by decide +kernel
theorem bt_range : bootBuiltins "range" = some (.type "range") := by decide +kernel
theorem bt_zip : bootBuiltins "zip" = some (.type "zip") := by decide +kernel
theorem bt_enumerate : bootBuiltins "enumerate" = some (.type "enumerate") := by decide +kernel
theorem bt_reversed : bootBuiltins "reversed" = some (.type "reversed") := by decide +kernel
theorem bt_ValueError : bootBuiltins "ValueError" = some (.type "ValueError") := by decide +kernel
end DL

namespace DL
open PySem PySem.Spec PyProof.Rows L2
section
variable {X : Cx} {G : Cls} {ρ : En} {pos p apos cpos : Pos} {e a b c : Expr} {es : List Expr} {x : Str} {d : D} {P : Po} {W : Nat → Prop}
theorem ev (i : Nat) {Φ : D → En → Prop} (h : Φ d ρ) (hN : X.N[i]? = some x := by rfl) (hv : Vis X.env.scope x := by first | exact Or.inl rfl | exact Or.inr (Or.inl rfl) | exact Or.inr (Or.inr rfl)) (hr : ρ[i]? = some (some (.dat d)) := by rfl)
    (hd : (x == ("__debug__" : Str)) = false := by decide) (hcd : (x == ("__classdict__" : Str)) = false := by decide) : WE X G (.Name x pos) ρ Φ := we_var i hN hv hr hd hcd h
theorem eg {i : Int} {u : Value} {Φ : D → En → Prop} (h : Φ (.int i) ρ) (hm : X.mg x = some u := by assumption) (hg : Gl X x := by rfl) (r : RelV (.int i) u := by exact ⟨_, rfl⟩) (hd : (x == ("__debug__" : Str)) = false := by decide) : WE X G (.Name x pos) ρ Φ := we_globI hg hm r hd h
theorem ety {T : String} (hv : bootBuiltins x = some (.type T)) {Φ : D → En → Prop} (h : Φ (.ty T) ρ) (hm : X.mg x = none := by assumption) (hg : Gl X x := by rfl) (hn : x ≠ "__name__" := by decide) (hdb : (x == ("__debug__" : Str)) = false := by decide) : WE X G (.Name x pos) ρ Φ := we_ty hg hm hv hn hdb h
theorem ecmp {op : CmpOp} {Φ : D → En → Prop} (h : WE X G a ρ fun x ρ1 => WE X G b ρ1 fun y ρ2 => BinD X G (.c op) x y fun d => Φ d ρ2) (hm : behindInMarks op b = false := by first | exact nomark _ | with_unfolding_all rfl) : WE X G (.Compare a [op] [b] pos) ρ Φ := we_cmp hm h
theorem tcmp {op : CmpOp} {Φ : Bool → En → Prop} (h : WE X G a ρ fun x ρ1 => WE X G b ρ1 fun y ρ2 => BinD X G (.c op) x y fun d => ∃ t, d = .bl t ∧ Φ t ρ2) (hm : behindInMarks op b = false := by first | exact nomark _ | with_unfolding_all rfl) : WT X G (.Compare a [op] [b] pos) ρ Φ := wt_cmp hm h
theorem echain {op op' : CmpOp} {Φ : D → En → Prop} (h : WE X G a ρ fun x ρ1 => WE X G b ρ1 fun y ρ2 => BinD X G (.c op) x y fun d => ∃ t, d = .bl t ∧
    if t = true then WE X G c ρ2 fun z ρ3 => BinD X G (.c op') y z fun d => Φ d ρ3 else Φ (.bl false) ρ2) (hm : lastMarks [op, op'] [b, c] = false := by with_unfolding_all rfl) : WE X G (.Compare a [op, op'] [b, c] pos) ρ Φ := we_chain hm h
theorem tchain {op op' : CmpOp} {Φ : Bool → En → Prop} (h : WE X G a ρ fun x ρ1 => WE X G b ρ1 fun y ρ2 => BinD X G (.c op) x y fun d => ∃ t, d = .bl t ∧
    if t = true then WE X G c ρ2 fun z ρ3 => BinD X G (.c op') y z fun d => ∃ t, d = .bl t ∧ Φ t ρ3 else Φ false ρ2) (hm : lastMarks [op, op'] [b, c] = false := by with_unfolding_all rfl) : WT X G (.Compare a [op, op'] [b, c] pos) ρ Φ := wt_chain hm h
theorem ttru {Φ : Bool → En → Prop} (h : WE X G e ρ fun d ρ' => ∃ t, d.truth = some t ∧ Φ t ρ') (he : ∀ whole, isTrue e X.env whole = (do let v ← whole; standAt e.pos; holding [v] (truthy v)) := by intro _; rfl) : WT X G e ρ Φ := wt_tru he h
theorem acons {Φ : List D → En → Prop} (h : WE X G e ρ fun d ρ1 => WA X G es ρ1 fun ds ρ2 => Φ (d :: ds) ρ2) (hs : starEach (e :: es) X.env = (false, eval e X.env) :: starEach es X.env := by rfl) : WA X G (e :: es) ρ Φ := wa_cons hs h
theorem astar {p' : Pos} {Φ : List D → En → Prop} (h : WE X G e ρ fun d ρ1 => ∃ ds, SeqD d ds ∧ WA X G es ρ1 fun ds' ρ2 => Φ (ds ++ ds') ρ2) (hs : starEach (.Starred e p' :: es) X.env = (true, eval e X.env) :: starEach es X.env := by rfl) : WA X G (.Starred e p' :: es) ρ Φ := wa_star hs h
theorem ecB {id : String} (hv : bootBuiltins x = some (.builtin id)) {Φ : D → En → Prop} (h : WA X G (e :: es) ρ fun ds ρ1 => CallD X G (.builtin id) ds fun d => Φ d ρ1) (hm : X.mg x = none := by assumption) (hg : Gl X x := by rfl) (hn : x ≠ "__name__" := by decide) (hdb : (x == ("__debug__" : Str)) = false := by decide)
    (he : starEach (e :: es) X.env = (false, eval e X.env) :: starEach es X.env := by rfl) (hpl : (backTo pos (starEach es X.env)).any (·.1) = false := by rfl) : WE X G (.Call (.Name x p) (e :: es) [] pos) ρ Φ := we_callB hg hm hv hn hdb he hpl h
theorem ecT {T : String} (hv : bootBuiltins x = some (.type T)) {Φ : D → En → Prop} (h : WA X G (e :: es) ρ fun ds ρ1 => CallD X G (.type T) ds fun d => Φ d ρ1) (hm : X.mg x = none := by assumption) (hg : Gl X x := by rfl) (hn : x ≠ "__name__" := by decide) (hdb : (x == ("__debug__" : Str)) = false := by decide)
    (he : starEach (e :: es) X.env = (false, eval e X.env) :: starEach es X.env := by rfl) (hpl : (backTo pos (starEach es X.env)).any (·.1) = false := by rfl) : WE X G (.Call (.Name x p) (e :: es) [] pos) ρ Φ := we_callTy hg hm hv hn hdb he hpl h
theorem fcB {id : String} (hv : bootBuiltins x = some (.builtin id)) {Φ : List D → En → Prop} (h : WA X G (e :: es) ρ fun ds ρ1 => CallF X G (.builtin id) ds fun d => Φ d ρ1) (hm : X.mg x = none := by assumption) (hg : Gl X x := by rfl) (hn : x ≠ "__name__" := by decide) (hdb : (x == ("__debug__" : Str)) = false := by decide)
    (he : starEach (e :: es) X.env = (false, eval e X.env) :: starEach es X.env := by rfl) (hpl : (backTo pos (starEach es X.env)).any (·.1) = false := by rfl) : WF X G (.Call (.Name x p) (e :: es) [] pos) ρ Φ := wf_callB hg hm hv hn hdb he hpl h
theorem fcT {T : String} (hv : bootBuiltins x = some (.type T)) {Φ : List D → En → Prop} (h : WA X G (e :: es) ρ fun ds ρ1 => CallF X G (.type T) ds fun d => Φ d ρ1) (hm : X.mg x = none := by assumption) (hg : Gl X x := by rfl) (hn : x ≠ "__name__" := by decide) (hdb : (x == ("__debug__" : Str)) = false := by decide)
    (he : starEach (e :: es) X.env = (false, eval e X.env) :: starEach es X.env := by rfl) (hpl : (backTo pos (starEach es X.env)).any (·.1) = false := by rfl) : WF X G (.Call (.Name x p) (e :: es) [] pos) ρ Φ := wf_callTy hg hm hv hn hdb he hpl h
theorem ecall {k n : Nat} {spec : DSpec} {Φ : D → En → Prop} (F : Fd X.prog X.w X.K X.mg X.base G k x n spec) (h : WA X G (e :: es) ρ fun ds ρ1 => spec ds fun d => Φ d ρ1) (hr : Room k X.A := by first | assumption | exact Room.mono (by assumption) (by decide)) (hg : Gl X x := by rfl) (hdb : (x == ("__debug__" : Str)) = false := by decide)
    (he : starEach (e :: es) X.env = (false, eval e X.env) :: starEach es X.env := by rfl) (hpl : (backTo pos (starEach es X.env)).any (·.1) = false := by rfl) : WE X G (.Call (.Name x p) (e :: es) [] pos) ρ Φ := we_call F hr hg hdb he hpl h
theorem esub {Φ : D → En → Prop} (h : WE X G a ρ fun x ρ1 => WE X G b ρ1 fun y ρ2 => IxD X G x y fun d => Φ d ρ2) (hs : PlainIx b := by exact fun _ _ => rfl) : WE X G (.Subscript a b pos) ρ Φ := we_sub hs h
theorem sasg (i : Nat) {pos' : Pos} (h : WE X G e ρ fun d ρ' => P.nx (ρ'.set i (some (.dat d)))) (hN : X.N.Nodup := by assumption) (hi : X.N[i]? = some x := by rfl) (hx : Loc X.env.scope x := by first | exact Or.inl rfl | exact Or.inr rfl) (hs : swapsWith e (some (.Name x pos')) pos.line X.env = pure false := by rfl)
    (hf : X.fn x = true ∨ X.env.scope.names.lookup x = some .local := by first | exact Or.inl rfl | exact Or.inr rfl) : WS X G (.Assign [.Name x pos'] e pos) ρ P := ws_asg hN hi hx hs hf h
theorem sown (i : Nat) {pos' : Pos} (h : WF X G e ρ fun ds ρ' => P.nx (ρ'.set i (some (.own ds)))) (hN : X.N.Nodup := by assumption) (hi : X.N[i]? = some x := by rfl) (hx : Loc X.env.scope x := by first | exact Or.inl rfl | exact Or.inr rfl) (hs : swapsWith e (some (.Name x pos')) pos.line X.env = pure false := by rfl)
    (hf : X.fn x = true ∨ X.env.scope.names.lookup x = some .local := by first | exact Or.inl rfl | exact Or.inr rfl) : WS X G (.Assign [.Name x pos'] e pos) ρ P := ws_own hN hi hx hs hf h
theorem sexpr (h : WE X G e ρ fun _ ρ' => P.nx ρ') (hs : swapsWith e none pos.line X.env = pure false := by rfl) : WS X G (.Expr e pos) ρ P := ws_expr hs h
theorem eapp (i : Nat) {ds0 : List D} {Φ : D → En → Prop} (h : WA X G (e :: es) ρ fun as ρ1 => ∃ d ds, as = [d] ∧ ρ1[i]? = some (some (.own ds)) ∧ ds.length < sizeLine ∧ Φ .non (ρ1.set i (some (.own (ds ++ [d])))))
    (hN : X.N[i]? = some x := by rfl) (hv : Vis X.env.scope x := by first | exact Or.inl rfl | exact Or.inr (Or.inl rfl) | exact Or.inr (Or.inr rfl)) (hd : (x == ("__debug__" : Str)) = false := by decide) (hcd : (x == ("__classdict__" : Str)) = false := by decide) (ho : ρ[i]? = some (some (.own ds0)) := by rfl)
    (hbase : attributeBase (.Name x p) "append" X.env (eval (.Name x p) X.env) = eval (.Name x p) X.env := by rfl)
    (hfew : ((backTo cpos (starEach (e :: es) X.env)).all (fun x => !x.1) && (backToKw cpos (keywordEach [] X.env)).all (fun x => x.1.isSome)
      && decide ((e :: es).length + ([] : List Keyword).length + (if ([] : List Keyword).isEmpty then 0 else 1) < 30)) = true := by rfl)
    (hline : (apos.endLine == cpos.line) = true := by rfl) (hs : starEach (e :: es) X.env = (false, eval e X.env) :: starEach es X.env := by rfl) (hplain : (backTo cpos (starEach es X.env)).any (·.1) = false := by rfl) :
    WE X G (.Call (.Attribute (.Name x p) "append" apos) (e :: es) [] cpos) ρ Φ := we_append i hN hv hd hcd ho hbase hfew hline hs hplain h
theorem eext (i : Nat) {ds0 : List D} {Φ : D → En → Prop} (h : WA X G (e :: es) ρ fun as ρ1 => ∃ zs ds, as = [.lst zs] ∧ ρ1[i]? = some (some (.own ds)) ∧ ds.length + zs.length ≤ sizeLine ∧ Φ .non (ρ1.set i (some (.own (ds ++ zs)))))
    (hN : X.N[i]? = some x := by rfl) (hv : Vis X.env.scope x := by first | exact Or.inl rfl | exact Or.inr (Or.inl rfl) | exact Or.inr (Or.inr rfl)) (hd : (x == ("__debug__" : Str)) = false := by decide) (hcd : (x == ("__classdict__" : Str)) = false := by decide) (ho : ρ[i]? = some (some (.own ds0)) := by rfl)
    (hbase : attributeBase (.Name x p) "extend" X.env (eval (.Name x p) X.env) = eval (.Name x p) X.env := by rfl)
    (hfew : ((backTo cpos (starEach (e :: es) X.env)).all (fun x => !x.1) && (backToKw cpos (keywordEach [] X.env)).all (fun x => x.1.isSome)
      && decide ((e :: es).length + ([] : List Keyword).length + (if ([] : List Keyword).isEmpty then 0 else 1) < 30)) = true := by rfl)
    (hline : (apos.endLine == cpos.line) = true := by rfl) (hs : starEach (e :: es) X.env = (false, eval e X.env) :: starEach es X.env := by rfl) (hplain : (backTo cpos (starEach es X.env)).any (·.1) = false := by rfl) :
    WE X G (.Call (.Attribute (.Name x p) "extend" apos) (e :: es) [] cpos) ρ Φ := we_extend i hN hv hd hcd ho hbase hfew hline hs hplain h
theorem epopAt (i : Nat) {ds0 : List D} {Φ : D → En → Prop} (h : WA X G (e :: es) ρ fun as ρ1 => ∃ (j : Nat) (d : D) (ds : List D), as = [.int j] ∧ ρ1[i]? = some (some (.own ds)) ∧ j < 2 ^ 63 ∧ ds[j]? = some d ∧ Φ d (ρ1.set i (some (.own (ds.eraseIdx j)))))
    (hN : X.N[i]? = some x := by rfl) (hv : Vis X.env.scope x := by first | exact Or.inl rfl | exact Or.inr (Or.inl rfl) | exact Or.inr (Or.inr rfl)) (hd : (x == ("__debug__" : Str)) = false := by decide) (hcd : (x == ("__classdict__" : Str)) = false := by decide) (ho : ρ[i]? = some (some (.own ds0)) := by rfl)
    (hbase : attributeBase (.Name x p) "pop" X.env (eval (.Name x p) X.env) = eval (.Name x p) X.env := by rfl)
    (hfew : ((backTo cpos (starEach (e :: es) X.env)).all (fun x => !x.1) && (backToKw cpos (keywordEach [] X.env)).all (fun x => x.1.isSome)
      && decide ((e :: es).length + ([] : List Keyword).length + (if ([] : List Keyword).isEmpty then 0 else 1) < 30)) = true := by rfl)
    (hline : (apos.endLine == cpos.line) = true := by rfl) (hs : starEach (e :: es) X.env = (false, eval e X.env) :: starEach es X.env := by rfl) (hplain : (backTo cpos (starEach es X.env)).any (·.1) = false := by rfl) :
    WE X G (.Call (.Attribute (.Name x p) "pop" apos) (e :: es) [] cpos) ρ Φ := we_popAt i hN hv hd hcd ho hbase hfew hline hs hplain h
theorem elenO (i : Nat) {ds : List D} {px : Pos} {n : Str} {Φ : D → En → Prop} (h : Φ (.int ds.length) ρ) (hN : X.N[i]? = some x := by rfl) (hv : Vis X.env.scope x := by first | exact Or.inl rfl | exact Or.inr (Or.inl rfl) | exact Or.inr (Or.inr rfl)) (hd : (x == ("__debug__" : Str)) = false := by decide) (hcd : (x == ("__classdict__" : Str)) = false := by decide) (ho : ρ[i]? = some (some (.own ds)) := by rfl)
    (hm : X.mg n = none := by assumption) (hg : Gl X n := by rfl) (hb : bootBuiltins n = some (.builtin "len") := by exact bt_len) (hn : n ≠ "__name__" := by decide) (hdb : (n == ("__debug__" : Str)) = false := by decide)
    (he : starEach [.Name x px] X.env = (false, eval (.Name x px) X.env) :: starEach [] X.env := by rfl) (hpl : (backTo pos (starEach [] X.env)).any (·.1) = false := by rfl) : WE X G (.Call (.Name n p) [.Name x px] [] pos) ρ Φ := we_lenOwn i hN hv hd hcd ho hg hm hb hn hdb he hpl h
theorem esubO (i : Nat) {ds : List D} {px : Pos} {Φ : D → En → Prop} (h : WE X G b ρ fun y ρ1 => ∃ j d ds1, y = .int j ∧ ρ1[i]? = some (some (.own ds1)) ∧ L2.atI ds1 j = some d ∧ Φ d ρ1) (hN : X.N[i]? = some x := by rfl) (hv : Vis X.env.scope x := by first | exact Or.inl rfl | exact Or.inr (Or.inl rfl) | exact Or.inr (Or.inr rfl)) (hd : (x == ("__debug__" : Str)) = false := by decide) (hcd : (x == ("__classdict__" : Str)) = false := by decide) (ho : ρ[i]? = some (some (.own ds)) := by rfl)
    (hs : PlainIx b := by exact fun _ _ => rfl) : WE X G (.Subscript (.Name x px) b pos) ρ Φ := we_subOwn i hN hv hd hcd ho hs h
variable {Ψ : En → Prop} {ds : List D}
theorem gname (i : Nat) (h : Ψ (ρ.set i (some (.dat d)))) (hW : W i := by first | exact True.intro | (simp only [List.map]; decide) | (show (_ : Nat) ∈ _; decide)) (hN : X.N.Nodup := by assumption) (hi : X.N[i]? = some x := by rfl) (hx : Loc X.env.scope x := by first | exact Or.inl rfl | exact Or.inr rfl) (hf : X.fn x = true ∨ X.env.scope.names.lookup x = some .local := by first | exact Or.inl rfl | exact Or.inr rfl) : WG X G W (.Name x pos) d ρ Ψ := wg_name i hW hN hi hx hf h
theorem gtup {kk : Nat} (h : WGs X G W es ds ρ Ψ) (hc : X.calm = true := by rfl) (hn : (assignEach es X.env).length = ds.length := by rfl) (hst : (assignEach es X.env).findIdx? (·.1) = none := by rfl) : WG X G W (.Tuple es kk pos) (.tup ds) ρ Ψ := wg_tup hc hn hst h
theorem gcons (h : WG X G W e d ρ fun ρ1 => WGs X G W es ds ρ1 Ψ) (hs : (assignEach (e :: es) X.env).map (·.2) = assign e X.env :: (assignEach es X.env).map (·.2) := by rfl) : WGs X G W (e :: es) (d :: ds) ρ Ψ := wgs_cons hs h
theorem sasgT {tg : Expr} (h : WE X G e ρ fun d ρ1 => WG X G (fun _ => True) tg d ρ1 P.nx) (hs : swapsWithSole [tg] e pos.line X.env = pure false := by rfl) (hw : swappedStores [tg] e X.env = pure none := by rfl) (h1 : (assignEach [tg] X.env).map (·.2) = [assign tg X.env] := by rfl) : WS X G (.Assign [tg] e pos) ρ P := ws_asgT hs hw h1 h
theorem spar (i j : Nat) {x y : Str} {px py pt : Pos} {kt k2 pt2} (h : WA X G [a, b] ρ fun ds ρ1 => ∃ d1 d2, ds = [d1, d2] ∧ P.nx ((ρ1.set i (some (.dat d1))).set j (some (.dat d2)))) (hc : X.calm = true := by rfl) (hN : X.N.Nodup := by assumption) (hi : X.N[i]? = some x := by rfl) (hj : X.N[j]? = some y := by rfl) (hij : i ≠ j := by decide)
    (hx : X.env.scope.names.lookup x = some .local := by rfl) (hy : X.env.scope.names.lookup y = some .local := by rfl)
    (hw : swappedStores [.Tuple [.Name x px, .Name y py] kt pt] (.Tuple [a, b] k2 pt2) X.env = pure (some [x, y]) := by rfl)
    (hs : swapsWithSole [.Tuple [.Name x px, .Name y py] kt pt] (.Tuple [a, b] k2 pt2) pos.line X.env = pure false := by rfl) : WS X G (.Assign [.Tuple [.Name x px, .Name y py] kt pt] (.Tuple [a, b] k2 pt2) pos) ρ P := ws_par hc hN hi hj hij hx hy hw hs h
theorem sfor {tg iter : Expr} {body : List Stmt} (h : WI X G tg iter ρ fun ds ρ1 => ∃ I : Nat → En → Prop, I 0 ρ1 ∧
      (∀ k d ρ2, ds[k]? = some d → I k ρ2 → WG X G (fun _ => True) tg d ρ2 fun ρ3 => WSs X G body ρ3 { P with nx := I (k + 1), ct := I (k + 1), bk := P.nx }) ∧ ∀ ρ2, I ds.length ρ2 → P.nx ρ2)
    (hp : PassesOwn (model X.prog X.w) X.A X.env X.xe := by exact PassesOwn.never) (hc : X.calm = true := by rfl) (hs : ∀ x, foldedSetIterable iter X.env x = pure x := by exact fun _ => rfl) : WS X G (.For tg iter body [] pos) ρ P := ws_for hp hc hs h
variable {tg iter elt : Expr} {scope : Scope} {ifs : List Expr}
theorem fcomp (own : List (Str × Nat)) {Φ : List D → En → Prop} (h : WI X G tg iter ρ (LcAsk X G scope tg elt ifs own Φ)) (hc : X.calm = true := by rfl) (hN : X.N.Nodup := by assumption) (ok : BlkOk X.N X.env.scope scope own := by exact blkOk_by (by kernel_rfl)) (hs : ∀ x, foldedSetIterable iter X.env x = pure x := by exact fun _ => rfl) :
    WF X G (.ListComp elt [⟨tg, iter, ifs, 0⟩] scope pos) ρ Φ := wf_comp hc hN ok hs h
theorem slc (i : Nat) (own : List (Str × Nat)) {y : Str} {py spos : Pos} (h : WI X G tg iter ρ (LcAsk X G scope tg elt ifs own fun ds ρ' => P.nx (ρ'.set i (some (.dat (.lst ds)))))) (hc : X.calm = true := by rfl) (hN : X.N.Nodup := by assumption) (hy : X.N[i]? = some y := by rfl) (hyl : X.env.scope.names.lookup y = some .local := by rfl)
    (hsw : swapsWith (.ListComp elt [⟨tg, iter, ifs, 0⟩] scope pos) (some (.Name y py)) spos.line X.env = pure true := by exact sw_true rfl rfl rfl (by decide +kernel)) (ok : BlkOk X.N X.env.scope scope own := by exact blkOk_by (by kernel_rfl)) (hs : ∀ x, foldedSetIterable iter X.env x = pure x := by exact fun _ => rfl) :
    WS X G (.Assign [.Name y py] (.ListComp elt [⟨tg, iter, ifs, 0⟩] scope pos) spos) ρ P := ws_setLc hc hN hy hyl hsw ok hs h
theorem slcO (i : Nat) (own : List (Str × Nat)) {y : Str} {py spos : Pos} (h : WI X G tg iter ρ (LcAsk X G scope tg elt ifs own fun ds ρ' => P.nx (ρ'.set i (some (.own ds))))) (hc : X.calm = true := by rfl) (hN : X.N.Nodup := by assumption) (hy : X.N[i]? = some y := by rfl) (hyl : X.env.scope.names.lookup y = some .local := by rfl)
    (hsw : swapsWith (.ListComp elt [⟨tg, iter, ifs, 0⟩] scope pos) (some (.Name y py)) spos.line X.env = pure true := by exact sw_true rfl rfl rfl (by decide +kernel)) (ok : BlkOk X.N X.env.scope scope own := by exact blkOk_by (by kernel_rfl)) (hs : ∀ x, foldedSetIterable iter X.env x = pure x := by exact fun _ => rfl) :
    WS X G (.Assign [.Name y py] (.ListComp elt [⟨tg, iter, ifs, 0⟩] scope pos) spos) ρ P := ws_setLcO hc hN hy hyl hsw ok hs h
variable {tg1 iter1 : Expr} {ifs1 : List Expr}
theorem slc2 (i : Nat) (own : List (Str × Nat)) (vs1 : List Nat) {y : Str} {py spos : Pos} (h : WI X G tg iter ρ (LcAsk2 X G scope tg tg1 iter1 elt ifs ifs1 own vs1 fun ds ρ' => P.nx (ρ'.set i (some (.dat (.lst ds)))))) (hc : X.calm = true := by rfl) (hN : X.N.Nodup := by assumption) (hy : X.N[i]? = some y := by rfl) (hyl : X.env.scope.names.lookup y = some .local := by rfl)
    (hsw : swapsWith (.ListComp elt [⟨tg, iter, ifs, 0⟩, ⟨tg1, iter1, ifs1, 0⟩] scope pos) (some (.Name y py)) spos.line X.env = pure true := by exact sw_true rfl rfl rfl (by decide +kernel)) (ok : BlkOk X.N X.env.scope scope own := by exact blkOk_by (by kernel_rfl)) (hv : ∀ i ∈ vs1, i ∈ own.map (·.2) := by decide) (hs : ∀ x, foldedSetIterable iter X.env x = pure x := by exact fun _ => rfl) (hs1 : ∀ env x, foldedSetIterable iter1 env x = pure x := by exact fun _ _ => rfl) :
    WS X G (.Assign [.Name y py] (.ListComp elt [⟨tg, iter, ifs, 0⟩, ⟨tg1, iter1, ifs1, 0⟩] scope pos) spos) ρ P := ws_setLc2 hc hN hy hyl hsw ok hv hs hs1 h
theorem fcomp2 (own : List (Str × Nat)) (vs1 : List Nat) {Φ : List D → En → Prop} (h : WI X G tg iter ρ (LcAsk2 X G scope tg tg1 iter1 elt ifs ifs1 own vs1 Φ)) (hc : X.calm = true := by rfl) (hN : X.N.Nodup := by assumption) (ok : BlkOk X.N X.env.scope scope own := by exact blkOk_by (by kernel_rfl)) (hv : ∀ i ∈ vs1, i ∈ own.map (·.2) := by decide) (hs : ∀ x, foldedSetIterable iter X.env x = pure x := by exact fun _ => rfl) (hs1 : ∀ env x, foldedSetIterable iter1 env x = pure x := by exact fun _ _ => rfl) :
    WF X G (.ListComp elt [⟨tg, iter, ifs, 0⟩, ⟨tg1, iter1, ifs1, 0⟩] scope pos) ρ Φ := wf_comp2 hc hN ok hv hs hs1 h
theorem irange {Φ : List D → En → Prop} (h : WA X G [a] ρ fun ds ρ1 => ∃ j : Int, ds = [.int j] ∧ j ≤ 16777216 ∧ -(2 ^ 62) ≤ j ∧ Φ (rngD 0 j.toNat) ρ1) (hm : X.mg "range" = none := by assumption) (hg : Gl X "range" := by rfl) (hs : starEach [a] X.env = [(false, eval a X.env)] := by rfl) : WI X G tg (.Call (.Name "range" p) [a] [] pos) ρ Φ := wi_range1 hg hm hs h
theorem izip {tpos : Pos} {elts : List Expr} {kk : Nat} {Φ : List D → En → Prop} (h : WA X G [a, b] ρ fun ds ρ1 => ∃ xs ys, (ds = [.lst xs, .lst ys] ∨ ds = [.tup xs, .tup ys]) ∧ Φ (zipD xs ys) ρ1) (hm : X.mg "zip" = none := by assumption) (hg : Gl X "zip" := by rfl)
    (hs : starEach [a, b] X.env = (false, eval a X.env) :: starEach [b] X.env := by rfl) (hpl : (backTo pos (starEach [b] X.env)).any (·.1) = false := by rfl) : WI X G (.Tuple elts kk tpos) (.Call (.Name "zip" p) [a, b] [] pos) ρ Φ := wi_zip hg hm hs hpl h
theorem ienumL {tpos : Pos} {elts : List Expr} {kk : Nat} {Φ : List D → En → Prop} (h : WA X G [a] ρ fun ds ρ1 => ∃ xs, ds = [.lst xs] ∧ Φ (enumD xs) ρ1) (hm : X.mg "enumerate" = none := by assumption) (hg : Gl X "enumerate" := by rfl) (hs : starEach [a] X.env = [(false, eval a X.env)] := by rfl) : WI X G (.Tuple elts kk tpos) (.Call (.Name "enumerate" p) [a] [] pos) ρ Φ := wi_enumL hg hm hs h
end
end DL
namespace DL
open PySem PySem.Spec PyProof.Rows L2
/-- a, b = a new list, [] : both owned -/
theorem sparO (i j : Nat) {X : Cx} {G : Cls} {ρ : En} {pos : Pos} {P : Po} {a : Expr} {x y : Str} {px py pt pl : Pos} {kt k2 pt2} (h : WF X G a ρ fun ds ρ1 => P.nx ((ρ1.set i (some (.own ds))).set j (some (.own [])))) (hc : X.calm = true := by rfl) (hN : X.N.Nodup := by assumption) (hi : X.N[i]? = some x := by rfl) (hj : X.N[j]? = some y := by rfl) (hij : i ≠ j := by decide)
    (hx : X.env.scope.names.lookup x = some .local := by rfl) (hy : X.env.scope.names.lookup y = some .local := by rfl)
    (hw : swappedStores [.Tuple [.Name x px, .Name y py] kt pt] (.Tuple [a, .List [] pl] k2 pt2) X.env = pure (some [x, y]) := by rfl)
    (hs : swapsWithSole [.Tuple [.Name x px, .Name y py] kt pt] (.Tuple [a, .List [] pl] k2 pt2) pos.line X.env = pure false := by rfl)
    (ha : starEach [a, .List [] pl] X.env = (false, eval a X.env) :: starEach [.List [] pl] X.env := by rfl) (hb : starEach [.List [] pl] X.env = (false, eval (.List [] pl) X.env) :: starEach [] X.env := by rfl) : WS X G (.Assign [.Tuple [.Name x px, .Name y py] kt pt] (.Tuple [a, .List [] pl] k2 pt2) pos) ρ P := fun S H0 M0 σ H M R E k => by
  refine mS_of (L2.ps_par hc hN hi hj hij hx hy (pa_cons (pe_m X a) (pa_cons (pe_lst pa_nil) pa_nil hb) ha) hw hs) (h S H0 M0 σ H M R _ fun p vs H1 M1 ds ρ1 p1 R1 hp r1 w1 => ?_)
  refine ⟨Nat.zero_le _, fun q hq => ⟨_, _, rfl, ?_⟩⟩
  obtain ⟨R2, p2⟩ := R1.newOwn (i := i) hp r1
  obtain ⟨R3, p3⟩ := R2.newOwn (i := j) hq .nil
  exact k.nx _ _ _ _ ((p1.trans p2).trans p3) R3 w1
theorem sfreeze (i : Nat) {X : Cx} {G : Cls} {ρ : En} {P : Po} {ds : List D} {sts : List Stmt} (h : WSs X G sts (ρ.set i (some (.dat (.lst ds)))) P) (e : ρ[i]? = some (some (.own ds)) := by rfl) : WSs X G sts ρ P := wss_freeze e h
end DL
namespace DL
open PySem PySem.Spec PyProof.Rows L2
section
variable {X : Cx} {G : Cls} {Ψ : D → Prop} {α : Type}
theorem cd_allM {L : List α} {q : α → Bool} (hc : X.calm = true) (h : Ψ (.bl (L.all q))) : CallD X G (.builtin "all") [.lst (L.map fun x => .bl (q x))] Ψ := by
  have e : (L.map fun x => D.bl (q x)) = (L.map q).map D.bl := by rw [List.map_map]; rfl
  rw [e]
  refine cd_all hc ?_
  rw [List.all_map]
  exact h
theorem cd_anyM {L : List α} {q : α → Bool} (hc : X.calm = true) (h : Ψ (.bl (L.any q))) : CallD X G (.builtin "any") [.lst (L.map fun x => .bl (q x))] Ψ := by
  have e : (L.map fun x => D.bl (q x)) = (L.map q).map D.bl := by rw [List.map_map]; rfl
  rw [e]
  refine cd_any hc ?_
  rw [List.any_map]
  exact h
theorem cd_sumM {L : List α} {q : α → Int} (hc : X.calm = true) (h : Ψ (.int (L.map q).sum)) : CallD X G (.builtin "sum") [.lst (L.map fun x => .int (q x))] Ψ := by
  have e : (L.map fun x => D.int (q x)) = (L.map q).map D.int := by rw [List.map_map]; rfl
  rw [e]
  exact cd_sum hc h
end
end DL

namespace DL
open PySem PySem.Spec PyProof.Rows L2
section
variable {X : Cx} {G : Cls} {ρ ρ1 : En} {pos : Pos} {tg iter elt tg1 iter1 : Expr} {scope : Scope} {own : List (Str × Nat)} {vs1 : List Nat} {Φ : List D → En → Prop} {ds : List D} {α β : Type}
theorem flatMap_len (L : List α) (M : List β) (g : α → β → D) : (L.flatMap fun x => M.map (g x)).length = L.length * M.length := by
  induction L with
  | nil => simp
  | cons a r ih => rw [List.flatMap_cons, List.length_append, ih, List.length_map, List.length_cons, Nat.succ_mul]; omega
/-- [g x y for x in L for y in M] -/
theorem lcask2_map (L : List α) (f : α → D) (M : List β) (m : β → D) (g : α → β → D) (hds : ds = L.map f) (hz : L.length * M.length ≤ 1000000)
    (turn : ∀ (k : Nat) x, L[k]? = some x → ∀ s H C cl fp, WG (Bk X scope s H C cl fp) G (fun j => j ∈ own.map (·.2)) tg (f x) (blkEn ρ1 (own.map (·.2))) fun ρ3 => ∀ s H C cl fp, WI (Bk X scope s H C cl fp) G tg1 iter1 ρ3 fun es ρ5 => es = M.map m ∧
      ∀ (j : Nat) y, M[j]? = some y → ∀ s H C cl fp, WG (Bk X scope s H C cl fp) G (fun j => j ∈ vs1) tg1 (m y) (blkEn ρ5 vs1) fun ρ6 => ∀ s H C cl fp, WE (Bk X scope s H C cl fp) G elt ρ6 fun d _ => d = g x y)
    (fin : Φ (L.flatMap fun x => M.map (g x)) ρ1) : LcAsk2 X G scope tg tg1 iter1 elt [] [] own vs1 Φ ds ρ1 := by
  subst hds
  refine ⟨fun k acc => acc = (L.take k).flatMap (fun x => M.map (g x)), by simp, fun k d acc hd hJ s H C cl fp => ?_, fun acc hJ => ?_⟩
  · rw [List.getElem?_map] at hd
    cases q : L[k]? with
    | none => rw [q] at hd; cases hd
    | some x =>
      rw [q] at hd
      cases hd
      have hk : k < L.length := (List.getElem?_eq_some_iff.mp q).1
      have t := turn k x q s H C cl fp
      intro S H0 M0 σ H' Mu v R r Q kk
      refine t S H0 M0 σ H' Mu v R r Q fun σ' H'' M' ρ' c p R' w => kk σ' H'' M' ρ' c p R' ?_
      show ∀ s H C cl fp, WI (Bk X scope s H C cl fp) G tg1 iter1 ρ' _
      intro s H C cl fp
      have w' := w s H C cl fp
      intro S H0 M0 σ H' Mu R Q kk
      refine w' S H0 M0 σ H' Mu R Q fun J H'' M' es ρ5 p R' it ⟨he, hw⟩ => kk J H'' M' es ρ5 p R' it ?_
      subst he
      refine ⟨fun j acc1 => acc1 = acc ++ (M.take j).map (g x), by simp, fun j e acc1 he hJ1 s H C cl fp => ?_, fun acc1 hJ1 => ?_⟩
      · rw [List.getElem?_map] at he
        cases q1 : M[j]? with
        | none => rw [q1] at he; cases he
        | some y =>
          rw [q1] at he
          cases he
          have hj : j < M.length := (List.getElem?_eq_some_iff.mp q1).1
          have t := hw j y q1 s H C cl fp
          intro S H0 M0 σ H' Mu v R r Q kk
          refine t S H0 M0 σ H' Mu v R r Q fun σ' H'' M' ρ' c p R' w => kk σ' H'' M' ρ' c p R' ?_
          show ∀ s H C cl fp, WE (Bk X scope s H C cl fp) G elt ρ' _
          intro s H C cl fp
          refine we_mono (w s H C cl fp) fun d ρ' e => ⟨?_, ?_⟩
          · refine sz_lt ?_
            rw [hJ1, hJ, List.length_append, flatMap_len, List.length_map, List.length_take, List.length_take]
            have h1 : min k L.length = k := by omega
            have h2 : min j M.length = j := by omega
            rw [h1, h2]
            have : k * M.length + M.length ≤ L.length * M.length := by
              rw [← Nat.succ_mul]
              exact Nat.mul_le_mul_right _ hk
            omega
          · subst e
            rw [hJ1, List.take_add_one, q1, List.map_append, List.append_assoc]
            rfl
      · show acc1 = (L.take (k + 1)).flatMap fun x => M.map (g x)
        rw [hJ1, List.take_add_one, q, List.flatMap_append, ← hJ, List.length_map, List.take_length]
        simp
  · rw [hJ]
    simpa using fin
end
theorem enumD_map {α : Type} (f : α → D) (xs : List α) : enumD (xs.map f) = xs.zipIdx.map fun p => .tup [.int (p.2 : Nat), f p.1] := by
  apply List.ext_getElem?
  intro i
  unfold enumD
  rw [List.getElem?_map, List.getElem?_map, List.getElem?_zipIdx, List.length_map]
  by_cases hi : i < xs.length
  · rw [List.getElem?_range hi, List.getElem?_eq_getElem hi]
    simp [List.getD, hi]
  · rw [List.getElem?_eq_none (by simpa using hi), List.getElem?_eq_none (by omega)]
    rfl
section
variable {X : Cx} {G : Cls} {Ψ : D → Prop} {ds : List D} {k : Int}
theorem bd_mulLI (h1 : -(2 ^ 63) ≤ k) (h2 : k < 2 ^ 63) (hz : ds.length * k.toNat ≤ sizeLine) (h : Ψ (.lst (List.replicate k.toNat ds).flatten)) : BinD X G (.b .Mult) (.lst ds) (.int k) Ψ :=
  bd_of op_rep fun S M H v w mt r1 r2 Q kk => by
    obtain ⟨p, xs, e1, g1, g2⟩ := r1.lst_
    obtain rfl := r2.int_
    refine ⟨p, k, xs, e1, rfl, g1.2, h1, h2, by rw [g2.length]; exact hz, fun q hq => ?_⟩
    refine kk _ _ _ (same_upd hq) (Rp.lstN mt hq ?_) h
    clear h hz
    generalize k.toNat = n
    induction n with
    | zero => exact .nil
    | succ n ih => rw [List.replicate_succ, List.replicate_succ, List.flatten_cons, List.flatten_cons]; exact g2.append ih
end
end DL

namespace DL
open PySem PySem.Spec PyProof.Rows L2
theorem ext_tuple (l : Addr) (items : Array Value) (n : Nat) (b : Addr) (o2 : Obj) (items2 : Array Value) (n2 : Nat) (hc2 : o2.cls = .type "tuple") (hd2 : o2.data = .seq items2 n2) (hs0 : ¬(!items.isEmpty && Builtin.List.listTooLong (items.size + items2.size)) = true) (hs1 : items.size ≤ sizeLine) (hs2 : items.size + items2.size ≤ sizeLine + 1 := by seq_fits) :
    Meets (Builtin.«list.extend» ⟨[.ref l, .ref b], []⟩) (fun _ R s => s.heap.get? l = some { cls := .type "list", dict := none, data := .seq items n, slots := #[] } ∧ s.heap.get? b = some o2 ∧ R (.ok (.ret Value.none)) { s with heap := s.heap.update l (Obj.mapSeq fun x => x ++ items2), toks := s.toks }) :=
  .of_wp fun prog w A R s h => by
    obtain ⟨hp, g, d, tk, os⟩ := s; obtain ⟨hl, hb, h⟩ := h; have f1 := AutoSeq1.idx_int; have f2 := AutoSeq1.sub_tuple_tuple; have f3 := AutoSeq1.sub_list_list; have f4 := AutoSeq1.sub_tuple_list; have f5 := AutoSeq1.sub_list_tuple;
    obtain ⟨cls, dict, data, sl⟩ := o2
    cases hc2
    cases hd2
    have hz' : (items ++ items2).size ≤ sizeLine + 1 := by rw [Array.size_append]; exact hs2
    wp_walk using (wpAny_updateSeq hl rfl (hz := hs1) (_hz' := hz')), AutoSeq1.wpAny_loadPart' hl, AutoSeq1.wpAny_loadPart' hb; exact ⟨_, rfl, h⟩

def rExtendT (K : PySem.W.Frag) : V → List V → Hp → VK → Prop := fun x vs H Q => ∃ l b xs zs, x = .ref l ∧ vs = [.ref b] ∧ H l = some (.lst xs) ∧ SqT K H b zs ∧ xs.length + zs.length ≤ sizeLine ∧ Q .non (upd H l (.lst (xs ++ zs)))
theorem mt_extendT {X : Cx} : MtM X "list.extend" (rExtendT X.K) := by
  intro pins s σ H x vs v us Q I rx rv h
  obtain ⟨l, b, xs, zs, rfl, rfl, hH, hB, hz, q⟩ := h
  cases rx
  obtain ⟨u, rfl, ru⟩ := rv.one
  cases ru
  obtain ⟨z, its, n, r, hl, e⟩ := I.lstM hH
  obtain ⟨its2, r2, ⟨o2, e2, hc2, n2, hd2⟩, hz2⟩ := I.tuple hB
  have hl2 := r2.length
  have hsz : its.toArray.size + its2.toArray.size ≤ sizeLine := by rw [List.size_toArray, List.size_toArray]; omega
  have hlong : ¬ (!its.toArray.isEmpty && Builtin.List.listTooLong (its.toArray.size + its2.toArray.size)) = true := by
    rw [notLongL hsz, Bool.and_false]
    exact Bool.false_ne_true
  refine call_meets F.slot_list_extend ⟨_, e, rfl⟩ F.entry_list_extend (F.args_list_extend_2 _ _)
    (ext_tuple l its.toArray n b o2 its2.toArray n2 hc2 hd2 hlong (by rw [List.size_toArray]; omega) (by omega)) ⟨e, e2, ?_⟩
  refine ⟨.non, _, I.lset (its' := its ++ its2) hH e (by simp) (r.append r2) ?_, rfl, q⟩
  rw [List.length_append]
  omega
section
variable {X : Cx} {G : Cls} {ρ : En} {pos p apos cpos : Pos} {e o : Expr} {es : List Expr} {x : Str}
theorem we_extendT (i : Nat) {ds0 : List D} {Φ : D → En → Prop} (hN : X.N[i]? = some x) (hv : Vis X.env.scope x) (hd : (x == ("__debug__" : Str)) = false) (hcd : (x == ("__classdict__" : Str)) = false) (ho : ρ[i]? = some (some (.own ds0)))
    (hbase : attributeBase (.Name x p) "extend" X.env (eval (.Name x p) X.env) = eval (.Name x p) X.env)
    (hfew : ((backTo cpos (starEach (e :: es) X.env)).all (fun x => !x.1) && (backToKw cpos (keywordEach [] X.env)).all (fun x => x.1.isSome)
      && decide ((e :: es).length + ([] : List Keyword).length + (if ([] : List Keyword).isEmpty then 0 else 1) < 30)) = true)
    (hline : (apos.endLine == cpos.line) = true) (hs : starEach (e :: es) X.env = (false, eval e X.env) :: starEach es X.env) (hplain : (backTo cpos (starEach es X.env)).any (·.1) = false)
    (h : WA X G (e :: es) ρ fun as ρ1 => ∃ zs ds, as = [.tup zs] ∧ ρ1[i]? = some (some (.own ds)) ∧ ds.length + zs.length ≤ sizeLine ∧ Φ .non (ρ1.set i (some (.own (ds ++ zs))))) :
    WE X G (.Call (.Attribute (.Name x p) "extend" apos) (e :: es) [] cpos) ρ Φ := fun S H0 M0 σ H M R Q k => by
  obtain ⟨q, vs, h1, h2, _⟩ := own_var i hN hv hd hcd R ho
  refine mE_of (pe_bm PySem.F.plainAttrs_list PySem.F.slot_list_extend PySem.F.type_list_extend mt_extendT (pe_var hN hv hd hcd) (pa_m X (e :: es)) hbase hfew hline hs hplain) ?_
  refine ⟨.ref q, h1, .inl ⟨rfl, _, .inl (.inl h2)⟩, h S H0 M0 σ H M R _ fun as H1 M1 ds1 ρ1 p1 R1 r1 w1 => ?_⟩
  obtain ⟨zs, ds, rfl, e1, hl, w⟩ := w1
  obtain ⟨v, rfl, rv⟩ := r1.inv1
  obtain ⟨b, us, rfl, hb, rb⟩ := rv.tup_
  obtain ⟨q', ws, g1, g2, g3, _⟩ := R1.own i ds e1
  rw [h1] at g1
  cases g1
  obtain ⟨R2, p2⟩ := R1.write e1 h1 (g3.append rb)
  exact ⟨q, b, ws, us, rfl, rfl, g2, hb.sq, by rw [g3.length, rb.length]; exact hl, k .non _ M1 .non _ (p1.trans p2) R2 .non w⟩
end
section

variable {X : Cx} {G : Cls} {ρ : En} {pos p apos cpos : Pos} {e a b c : Expr} {es : List Expr} {x : Str} {d : D} {P : Po} {W : Nat → Prop}
theorem eextT (i : Nat) {ds0 : List D} {Φ : D → En → Prop} (h : WA X G (e :: es) ρ fun as ρ1 => ∃ zs ds, as = [.tup zs] ∧ ρ1[i]? = some (some (.own ds)) ∧ ds.length + zs.length ≤ sizeLine ∧ Φ .non (ρ1.set i (some (.own (ds ++ zs)))))
    (hN : X.N[i]? = some x := by rfl) (hv : Vis X.env.scope x := by first | exact Or.inl rfl | exact Or.inr (Or.inl rfl) | exact Or.inr (Or.inr rfl)) (hd : (x == ("__debug__" : Str)) = false := by decide) (hcd : (x == ("__classdict__" : Str)) = false := by decide) (ho : ρ[i]? = some (some (.own ds0)) := by rfl)
    (hbase : attributeBase (.Name x p) "extend" X.env (eval (.Name x p) X.env) = eval (.Name x p) X.env := by rfl)
    (hfew : ((backTo cpos (starEach (e :: es) X.env)).all (fun x => !x.1) && (backToKw cpos (keywordEach [] X.env)).all (fun x => x.1.isSome)
      && decide ((e :: es).length + ([] : List Keyword).length + (if ([] : List Keyword).isEmpty then 0 else 1) < 30)) = true := by rfl)
    (hline : (apos.endLine == cpos.line) = true := by rfl) (hs : starEach (e :: es) X.env = (false, eval e X.env) :: starEach es X.env := by rfl) (hplain : (backTo cpos (starEach es X.env)).any (·.1) = false := by rfl) :
    WE X G (.Call (.Attribute (.Name x p) "extend" apos) (e :: es) [] cpos) ρ Φ := we_extendT i hN hv hd hcd ho hbase hfew hline hs hplain h
end
end DL

namespace DL
open PySem PySem.Spec PyProof.Rows L2
/-! ## == over data of a plain form -/
/-- data that == serves, at most n deep -/
def D.okn (n : Nat) (d : D) : Prop := d.py.canLay0 = true ∧ d.py.depth ≤ n
theorem D.okn.mono {n m : Nat} {d : D} (h : d.okn n) (k : n ≤ m) : d.okn m := ⟨h.1, Nat.le_trans h.2 k⟩
theorem D.okn.ok {n : Nat} {d : D} (h : d.okn n) (k : n ≤ 64 := by decide) : d.ok = true := by
  show (d.py.canLay0 && decide (d.py.depth ≤ 64)) = true
  rw [h.1, decide_eq_true (Nat.le_trans h.2 k)]
  rfl
theorem okn_non (n : Nat) : D.okn n .non := ⟨by simp [D.py, PyData.canLay0], by simp [D.py, PyData.depth]⟩
theorem okn_bl (n : Nat) (b : Bool) : D.okn n (.bl b) := ⟨by simp [D.py, PyData.canLay0], by simp [D.py, PyData.depth]⟩
theorem okn_int (n : Nat) (i : Int) : D.okn n (.int i) := ⟨by simp [D.py, PyData.canLay0], by simp [D.py, PyData.depth]⟩
theorem oknA {n : Nat} : ∀ {ds : List D}, (∀ d ∈ ds, d.okn n) → PyData.canLayAll0 (D.pyA ds) = true ∧ PyData.depthAll (D.pyA ds) ≤ n
  | [], _ => ⟨by simp [D.pyA, PyData.canLayAll0], by simp [D.pyA, PyData.depthAll]⟩
  | d :: ds, h => by
    have h1 := h d (by simp)
    have h2 := oknA (ds := ds) fun e he => h e (by simp [he])
    refine ⟨by simp [D.pyA, PyData.canLayAll0, h1.1, h2.1], ?_⟩
    have := h1.2
    have := h2.2
    simp only [D.pyA, PyData.depthAll]
    omega
theorem okn_tup {n : Nat} {ds : List D} (h : ∀ d ∈ ds, d.okn n) : D.okn (n + 1) (.tup ds) := by
  have := oknA h
  refine ⟨by simp only [D.py, PyData.canLay0]; exact this.1, ?_⟩
  simp only [D.py, PyData.depth]
  omega
theorem okn_lst {n : Nat} {ds : List D} (h : ∀ d ∈ ds, d.okn n) : D.okn (n + 1) (.lst ds) := by
  have := oknA h
  refine ⟨by simp only [D.py, PyData.canLay0]; exact this.1, ?_⟩
  simp only [D.py, PyData.depth]
  omega
theorem okn_tupI {n : Nat} (ns : List Int) : D.okn (n + 1) (.tup (ns.map D.int)) := okn_tup fun d hd => by obtain ⟨i, _, rfl⟩ := List.mem_map.mp hd; exact okn_int _ _
theorem okn_lstI {n : Nat} (ns : List Int) : D.okn (n + 1) (.lst (ns.map D.int)) := okn_lst fun d hd => by obtain ⟨i, _, rfl⟩ := List.mem_map.mp hd; exact okn_int _ _
theorem okn_lstM {α : Type} {n : Nat} {f : α → D} (L : List α) (h : ∀ x, (f x).okn n) : D.okn (n + 1) (.lst (L.map f)) := okn_lst fun d hd => by obtain ⟨i, _, rfl⟩ := List.mem_map.mp hd; exact h i
theorem okn_tupM {α : Type} {n : Nat} {f : α → D} (L : List α) (h : ∀ x, (f x).okn n) : D.okn (n + 1) (.tup (L.map f)) := okn_tup fun d hd => by obtain ⟨i, _, rfl⟩ := List.mem_map.mp hd; exact h i
theorem eqb_int (i j : Int) : (D.int i).eqb (.int j) = decide (i = j) := by
  unfold D.eqb
  simp only [D.py, PyData.eqv]
  by_cases h : i = j <;> simp [h]
def eqbA : List D → List D → Bool
  | [], [] => true
  | x :: xs, y :: ys => x.eqb y && eqbA xs ys
  | [], _ :: _ => false
  | _ :: _, [] => false
theorem eqbA_py : ∀ xs ys : List D, PyData.eqvAll (D.pyA xs) (D.pyA ys) = eqbA xs ys
  | [], [] => by simp [D.pyA, PyData.eqvAll, eqbA]
  | [], _ :: _ => by simp [D.pyA, PyData.eqvAll, eqbA]
  | _ :: _, [] => by simp [D.pyA, PyData.eqvAll, eqbA]
  | x :: xs, y :: ys => by
    rw [D.pyA, D.pyA, PyData.eqvAll, eqbA_py xs ys]
    rfl
theorem eqb_tup (xs ys : List D) : (D.tup xs).eqb (.tup ys) = eqbA xs ys := by
  unfold D.eqb
  rw [D.py, D.py, PyData.eqv, eqbA_py]
theorem eqb_lst (xs ys : List D) : (D.lst xs).eqb (.lst ys) = eqbA xs ys := by
  unfold D.eqb
  rw [D.py, D.py, PyData.eqv, eqbA_py]
theorem eqbA_map {α : Type} [DecidableEq α] {f : α → D} (h : ∀ x y, (f x).eqb (f y) = decide (x = y)) : ∀ L M : List α, eqbA (L.map f) (M.map f) = decide (L = M)
  | [], [] => rfl
  | [], _ :: _ => rfl
  | _ :: _, [] => rfl
  | x :: L, y :: M => by
    rw [List.map_cons, List.map_cons, eqbA, h x y, eqbA_map h L M]
    by_cases e : x = y <;> by_cases e2 : L = M <;> simp [e, e2]
theorem eqb_lstM {α : Type} [DecidableEq α] {f : α → D} (h : ∀ x y, (f x).eqb (f y) = decide (x = y)) (L M : List α) : (D.lst (L.map f)).eqb (.lst (M.map f)) = decide (L = M) := by rw [eqb_lst, eqbA_map h]
theorem eqb_tupM {α : Type} [DecidableEq α] {f : α → D} (h : ∀ x y, (f x).eqb (f y) = decide (x = y)) (L M : List α) : (D.tup (L.map f)).eqb (.tup (M.map f)) = decide (L = M) := by rw [eqb_tup, eqbA_map h]
theorem eqb_refl {d : D} (h : d.ok = true) : d.eqb d = true := SeqAt.eqv_refl _ (D.ok_lay h)
/-- == where both sides are forms of one kind of things -/
theorem bd_eqM {X : Cx} {G : Cls} {Ψ : D → Prop} {α : Type} [DecidableEq α] {f : α → D} {n : Nat} (x y : α) (h : ∀ x y, (f x).eqb (f y) = decide (x = y)) (ho : ∀ x, (f x).okn n) (hu : X.A.units + 64 < cLine) (hn : n ≤ 64) (q : Ψ (.bl (decide (x = y)))) : BinD X G (.c .Eq) (f x) (f y) Ψ :=
  bd_eq hu ((ho x).ok hn) ((ho y).ok hn) (by rw [h]; exact q)
theorem bd_neM {X : Cx} {G : Cls} {Ψ : D → Prop} {α : Type} [DecidableEq α] {f : α → D} {n : Nat} (x y : α) (h : ∀ x y, (f x).eqb (f y) = decide (x = y)) (ho : ∀ x, (f x).okn n) (hu : X.A.units + 64 < cLine) (hn : n ≤ 64) (q : Ψ (.bl (!decide (x = y)))) : BinD X G (.c .NotEq) (f x) (f y) Ψ :=
  bd_ne hu ((ho x).ok hn) ((ho y).ok hn) (by rw [h]; exact q)
theorem Room.u64 {k : Nat} {A : Around} (r : Room k A) : A.units + 64 < cLine := by have := r.un; omega
end DL

namespace DL
open PySem PySem.Spec PyProof.Rows L2
/-! ## sorted, things that are tuples -/
mutual
def plt : PyData → PyData → Bool
  | .int i, .int j => decide (i < j)
  | .str x, .str y => decide (x.cps.toList < y.cps.toList)
  | .tuple xs, .tuple ys => pltA xs ys
  | .none, _ => false
  | .bool _, _ => false
  | .list _, _ => false
  | .dict _, _ => false
  | .int _, _ => false
  | .str _, _ => false
  | .tuple _, _ => false
def pltA : List PyData → List PyData → Bool
  | [], [] => false
  | [], _ :: _ => true
  | _ :: _, [] => false
  | x :: xs, y :: ys => if PyData.eqv x y = true then pltA xs ys else plt x y
end
mutual
def pcm : PyData → PyData → Bool
  | .int _, .int _ => true
  | .str _, .str _ => true
  | .tuple xs, .tuple ys => pcmA xs ys
  | .none, _ => false
  | .bool _, _ => false
  | .list _, _ => false
  | .dict _, _ => false
  | .int _, _ => false
  | .str _, _ => false
  | .tuple _, _ => false
def pcmA : List PyData → List PyData → Bool
  | [], _ => true
  | _ :: _, [] => true
  | x :: xs, y :: ys => pcm x y && pcmA xs ys
end
theorem lex_shift (e r : Nat → Bool) (z : Bool) : ∀ k i : Nat, Ob.lexAt e r z (i + 1) k = Ob.lexAt (fun j => e (j + 1)) (fun j => r (j + 1)) z i k
  | 0, _ => rfl
  | k + 1, i => by rw [Ob.lexAt_succ, Ob.lexAt_succ, lex_shift e r z k (i + 1)]
theorem lex_congr {e e' r r' : Nat → Bool} {z : Bool} : ∀ k i : Nat, (∀ j, i ≤ j → j < i + k → e j = e' j) → (∀ j, i ≤ j → j < i + k → r j = r' j) → Ob.lexAt e r z i k = Ob.lexAt e' r' z i k
  | 0, _, _, _ => rfl
  | k + 1, i, h1, h2 => by
    rw [Ob.lexAt_succ, Ob.lexAt_succ, h1 i (Nat.le_refl _) (by omega), h2 i (Nat.le_refl _) (by omega), lex_congr k (i + 1) (fun j a b => h1 j (by omega) (by omega)) (fun j a b => h2 j (by omega) (by omega))]
abbrev eAt (xs ys : List PyData) (j : Nat) : Bool := PyData.eqv (xs.getD j .none) (ys.getD j .none)
abbrev rAt (xs ys : List PyData) (j : Nat) : Bool := plt (xs.getD j .none) (ys.getD j .none)
theorem pltA_lex : ∀ xs ys : List PyData, Ob.lexAt (eAt xs ys) (rAt xs ys) (decide (xs.length < ys.length)) 0 (min xs.length ys.length) = pltA xs ys
  | [], [] => by simp [Ob.lexAt, pltA]
  | [], _ :: _ => by simp [Ob.lexAt, pltA]
  | _ :: _, [] => by simp [Ob.lexAt, pltA]
  | x :: xs, y :: ys => by
    have ih := pltA_lex xs ys
    have e1 : min (x :: xs).length (y :: ys).length = min xs.length ys.length + 1 := by simp only [List.length_cons]; omega
    have e2 : decide ((x :: xs).length < (y :: ys).length) = decide (xs.length < ys.length) := by simp
    rw [e1, e2, Ob.lexAt_succ, lex_shift, pltA]
    show (if PyData.eqv x y = true then Ob.lexAt (eAt xs ys) (rAt xs ys) _ 0 _ else plt x y) = _
    rw [ih]
theorem readsAll_len {h : Heap} : ∀ {vs : List Value} {xs : List PyData} {as : List Addr}, ReadsAll h vs xs as → vs.length = xs.length
  | _, _, _, .nil => rfl
  | _, _, _, .cons _ r => by rw [List.length_cons, List.length_cons, readsAll_len r]
theorem rc_str (x y : Str) (t u : Tok) {A : Around} {s : Shared} : Ob.RcOp .Lt A s (.str x t) (.str y u) (decide (x.cps.toList < y.cps.toList)) := fun prog w E Q h => PyProof.Rows.lt_str h
mutual
theorem rc_lt : ∀ (da db : PyData) (A : Around) (s : Shared) (a b : Value) (as bs : List Addr), Reads s.heap a da as → Reads s.heap b db bs → da.canLay0 = true → db.canLay0 = true → pcm da db = true →
    A.units + min da.depth db.depth < cLine → Ob.RcOp .Lt A s a b (plt da db)
  | .int i, db, A, s, _, _, _, _, ra, rb, _, _, hc, _ => by
    cases ra with
    | int _ t =>
    cases rb with
    | int j u => rw [plt]; exact Ob.RcOp.lt_int _ _ _ _
    | _ => simp [pcm] at hc
  | .str x, db, A, s, _, _, _, _, ra, rb, _, _, hc, _ => by
    cases ra with
    | str _ t =>
    cases rb with
    | str y u => rw [plt]; exact rc_str x y t u
    | _ => simp [pcm] at hc
  | .tuple xs, db, A, s, _, _, _, _, ra, rb, ha, hb, hc, hu => by
    cases ra with
    | @tuple a1 o1 vs1 n1 _ _ g1 c1 d1 r1 =>
    cases rb with
    | @tuple a2 o2 vs2 n2 ys _ g2 c2 d2 r2 =>
      have ha' : PyData.canLayAll0 xs = true := by simpa [PyData.canLay0] using ha
      have hb' : PyData.canLayAll0 ys = true := by simpa [PyData.canLay0] using hb
      have hc' : pcmA xs ys = true := by simpa [pcm] using hc
      have hu' : A.in1.units + min (PyData.depthAll xs) (PyData.depthAll ys) < cLine := by
        simp only [PyData.depth] at hu
        show A.units + 1 + _ < _
        omega
      have l1 := readsAll_len r1
      have l2 := readsAll_len r2
      rw [Array.length_toList] at l1 l2
      have E := SeqAt.eqAt_readsAll xs ys A.in1 s vs1.toList vs2.toList _ _ r1 r2 ha' hb' hu'
      have T := Ob.RcOp.tuples_lt (A := A) (s := s) (l := a1) (b := a2) (items := vs1) (items2 := vs2) (e := eAt xs ys) (r := rAt xs ys) ⟨o1, g1, c1, n1, d1⟩ ⟨o2, g2, c2, n2, d2⟩ (by omega)
        (fun j h1 h2 => by have := E j (by simpa using h1) (by simpa using h2); simpa using this)
        (fun j h1 h2 he => by have := rc_ltAll xs ys A.in1 s vs1.toList vs2.toList _ _ r1 r2 ha' hb' hc' hu' j (by simpa using h1) (by simpa using h2); simpa using this)
      rw [l1, l2, pltA_lex] at T
      rw [plt]
      exact T
    | _ => simp [pcm] at hc
  | .none, _, _, _, _, _, _, _, _, _, _, _, hc, _ => by simp [pcm] at hc
  | .bool _, _, _, _, _, _, _, _, _, _, _, _, hc, _ => by simp [pcm] at hc
  | .list _, _, _, _, _, _, _, _, _, _, _, _, hc, _ => by simp [pcm] at hc
  | .dict _, _, _, _, _, _, _, _, _, _, ha, _, _, _ => by simp [PyData.canLay0] at ha
theorem rc_ltAll : ∀ (xs ys : List PyData) (A : Around) (s : Shared) (vs ws : List Value) (as bs : List Addr), ReadsAll s.heap vs xs as → ReadsAll s.heap ws ys bs → PyData.canLayAll0 xs = true → PyData.canLayAll0 ys = true → pcmA xs ys = true →
    A.units + min (PyData.depthAll xs) (PyData.depthAll ys) < cLine → ∀ j (h1 : j < vs.length) (h2 : j < ws.length), Ob.RcOp .Lt A s vs[j] ws[j] (rAt xs ys j)
  | [], _, _, _, _, _, _, _, ra, _, _, _, _, _, j, h1, _ => by cases ra; exact absurd h1 (Nat.not_lt_zero _)
  | _ :: _, [], _, _, _, _, _, _, _, rb, _, _, _, _, j, _, h2 => by cases rb; exact absurd h2 (Nat.not_lt_zero _)
  | x :: xs, y :: ys, A, s, _, _, _, _, ra, rb, ha, hb, hc, hu, j, h1, h2 => by
    have ha' : x.canLay0 = true ∧ PyData.canLayAll0 xs = true := by simpa [PyData.canLayAll0] using ha
    have hb' : y.canLay0 = true ∧ PyData.canLayAll0 ys = true := by simpa [PyData.canLayAll0] using hb
    have hc' : pcm x y = true ∧ pcmA xs ys = true := by simpa [pcmA] using hc
    simp only [PyData.depthAll] at hu
    cases ra with
    | cons p1 q1 =>
    cases rb with
    | cons p2 q2 =>
      match j, h1, h2 with
      | 0, _, _ => exact rc_lt x y A s _ _ _ _ p1 p2 ha'.1 hb'.1 hc'.1 (by omega)
      | j + 1, h1, h2 => exact rc_ltAll xs ys A s _ _ _ _ q1 q2 ha'.2 hb'.2 hc'.2 (by omega) j (by simpa using h1) (by simpa using h2)
end
end DL

namespace DL
open PySem PySem.Spec PyProof.Rows L2
section
variable {prog : Program} {w : World} {A : Around} {s : Shared}
theorem one_gen {E : Value → Shared → Prop} {c : Bool} {da db : PyData} {p q : Value} {as bs : List Addr} {Q : Bool → Shared → Prop} (ra : Reads s.heap p da as) (rb : Reads s.heap q db bs) (ha : da.canLay0 = true) (hb : db.canLay0 = true) (hc : pcm da db = true)
    (hu : A.units + min da.depth db.depth < cLine) (hi : c = false ∨ ∃ i j, da = .int i ∧ db = .int j) (h : Q (plt da db) s) : wpAny (model prog w) A (oneLt' c p q) Q E s := by
  rcases hi with rfl | ⟨i, j, rfl, rfl⟩
  · exact PySem.W.kat_one p q (rc_lt da db A s p q as bs ra rb ha hb hc hu prog w E (PySem.W.BoolBack Q) h)
  · cases ra
    cases rb
    rw [plt] at h
    exact TS.oneLt_ints c h
theorem kat_all {b fin : Bool} {Q : Bool → Shared → Prop} : ∀ (xs ys : List PyData) (vs ws : List Value) (as bs : List Addr) (i : Nat), ReadsAll s.heap vs xs as → ReadsAll s.heap ws ys bs → PyData.canLayAll0 xs = true → PyData.canLayAll0 ys = true → pcmA xs ys = true →
    A.units + min (PyData.depthAll xs) (PyData.depthAll ys) < cLine → (i ≠ 0 ∨ ∃ p q xs' ys', xs = PyData.int p :: xs' ∧ ys = PyData.int q :: ys') → fin = decide (xs.length < ys.length) → Q (pltA xs ys) s → PySem.W.KatLex prog w A b fin Q (vs.zip ws) i s
  | [], [], _, _, _, _, _, ra, rb, _, _, _, _, _, hf, h => by
    cases ra; cases rb
    refine PySem.W.kat_nil ?_
    rw [hf]; simpa [pltA] using h
  | [], _ :: _, _, _, _, _, _, ra, rb, _, _, _, _, _, hf, h => by
    cases ra
    refine PySem.W.kat_nil ?_
    rw [hf]; simpa [pltA] using h
  | _ :: _, [], _, _, _, _, _, ra, rb, _, _, _, _, _, hf, h => by
    cases rb
    rw [List.zip_nil_right]
    refine PySem.W.kat_nil ?_
    rw [hf]; simpa [pltA] using h
  | x :: xs, y :: ys, _, _, _, _, i, ra, rb, ha, hb, hc, hu, hi, hf, h => by
    have ha' : x.canLay0 = true ∧ PyData.canLayAll0 xs = true := by simpa [PyData.canLayAll0] using ha
    have hb' : y.canLay0 = true ∧ PyData.canLayAll0 ys = true := by simpa [PyData.canLayAll0] using hb
    have hc' : pcm x y = true ∧ pcmA xs ys = true := by simpa [pcmA] using hc
    simp only [PyData.depthAll] at hu
    cases ra with
    | cons p1 q1 =>
    cases rb with
    | cons p2 q2 =>
      rw [List.zip_cons_cons]
      refine PySem.W.kat_cons (SeqAt.eqAt_reads x y A s _ _ _ _ p1 p2 ha'.1 hb'.1 (by omega) prog w _ _ ?_)
      refine PySem.W.kat_go (fun e => PySem.W.kat_yes ?_) (fun e => PySem.W.kat_no ?_)
      · refine kat_all xs ys _ _ _ _ (i + 1) q1 q2 ha'.2 hb'.2 hc'.2 (by omega) (.inl (by omega)) (by rw [hf]; simp) ?_
        rw [pltA, if_pos e] at h
        exact h
      · refine one_gen p1 p2 ha'.1 hb'.1 hc'.1 (by omega) ?_ ?_
        · rcases hi with hi | ⟨p, q, xs', ys', e1, e2⟩
          · left
            cases i with
            | zero => exact absurd rfl hi
            | succ i => cases b <;> rfl
          · cases e1; cases e2
            exact .inr ⟨p, q, rfl, rfl⟩
        · rw [pltA, if_neg (by rw [e]; simp)] at h
          exact h
mutual
theorem reads_fun {h : Heap} : ∀ {v : Value} {d d' : PyData} {as bs : List Addr}, Reads h v d as → Reads h v d' bs → d.canLay0 = true → d = d'
  | _, .none, _, _, _, a, b, _ => by cases a; cases b; rfl
  | _, .bool _, _, _, _, a, b, _ => by cases a; cases b; rfl
  | _, .int _, _, _, _, a, b, _ => by cases a; cases b; rfl
  | _, .str _, _, _, _, a, b, _ => by cases a; cases b; rfl
  | _, .list xs, _, _, _, a, b, hk => by
    cases a with
    | list g1 c1 d1 r1 =>
    cases b with
    | list g2 c2 d2 r2 =>
      rw [g1] at g2; cases g2
      rw [d1] at d2; cases d2
      rw [readsA_fun r1 r2 (by simpa [PyData.canLay0] using hk)]
    | tuple g2 c2 d2 r2 => rw [g1] at g2; cases g2; rw [c1] at c2; exact absurd c2 (by simp)
    | dict g2 c2 d2 r2 => rw [g1] at g2; cases g2; rw [c1] at c2; exact absurd c2 (by simp)
  | _, .tuple xs, _, _, _, a, b, hk => by
    cases a with
    | tuple g1 c1 d1 r1 =>
    cases b with
    | tuple g2 c2 d2 r2 =>
      rw [g1] at g2; cases g2
      rw [d1] at d2; cases d2
      rw [readsA_fun r1 r2 (by simpa [PyData.canLay0] using hk)]
    | list g2 c2 d2 r2 => rw [g1] at g2; cases g2; rw [c1] at c2; exact absurd c2 (by simp)
    | dict g2 c2 d2 r2 => rw [g1] at g2; cases g2; rw [c1] at c2; exact absurd c2 (by simp)
  | _, .dict _, _, _, _, _, _, hk => by simp [PyData.canLay0] at hk
theorem readsA_fun {h : Heap} : ∀ {vs : List Value} {ds ds' : List PyData} {as bs : List Addr}, ReadsAll h vs ds as → ReadsAll h vs ds' bs → PyData.canLayAll0 ds = true → ds = ds'
  | _, [], _, _, _, a, b, _ => by cases a; cases b; rfl
  | _, d :: ds, _, _, _, a, b, hk => by
    have hk' : d.canLay0 = true ∧ PyData.canLayAll0 ds = true := by simpa [PyData.canLayAll0] using hk
    cases a with
    | cons p1 q1 =>
    cases b with
    | cons p2 q2 => rw [reads_fun p1 p2 hk'.1, readsA_fun q1 q2 hk'.2]
end
theorem kat_firstI {h : Heap} : ∀ vs : List Value, (∀ v ∈ vs, ∃ a o xs n i t, v = Value.ref a ∧ h.get? a = some o ∧ o.cls = .type "tuple" ∧ o.data = .seq xs n ∧ xs[0]? = some (.int i t)) →
    ∃ fs, PySem.W.KatTups h vs fs ∧ fs.length = vs.length ∧ ∀ f ∈ fs, ∃ i t, f = Value.int i t
  | [], _ => ⟨[], .nil, rfl, by simp⟩
  | v :: vs, hh => by
    obtain ⟨a, o, xs, n, i, t, rfl, h1, h2, h3, h4⟩ := hh v (by simp)
    obtain ⟨fs, g1, g2, g3⟩ := kat_firstI vs fun u hu => hh u (by simp [hu])
    refine ⟨.int i t :: fs, .cons h1 h2 h3 h4 g1, by simp [g2], fun f hf => ?_⟩
    rcases List.mem_cons.mp hf with rfl | hf
    · exact ⟨i, t, rfl⟩
    · exact g3 f hf
end
section
variable {X : Cx} {G : Cls} {α : Type}
theorem vals_get : ∀ {xs : List V} {us : List Value} {i : Nat} {u : Value}, Vals xs us → us[i]? = some u → ∃ v, xs[i]? = some v ∧ RelV v u
  | _, _, _, _, .nil, e => by simp at e
  | _, _, 0, _, .cons r _, e => by simp at e; subst e; exact ⟨_, rfl, r⟩
  | _, _, i + 1, u, .cons _ t, e => by
    obtain ⟨v, h1, h2⟩ := vals_get (i := i) (u := u) t (by simpa using e)
    exact ⟨v, by simpa using h1, h2⟩
theorem rpA_back {K : PySem.W.Frag} {S : Option Addr} {M : Mu} {H : Hp} (g : Value → D) : ∀ out : List Value, (∀ u ∈ out, Rp K G S M H (backV u) (g u)) → RpA K G S M H (out.map backV) (out.map g)
  | [], _ => .nil
  | u :: out, h => .cons (h u (by simp)) (rpA_back g out fun v hv => h v (by simp [hv]))
/-- sorted(xs), xs a list of tuples that begin with an int each, compared by < as lt says -/
theorem cf_sortedM [Inhabited α] [DecidableEq α] (f : α → D) (lt : α → α → Bool) (L : List α) {n : Nat} (O : SrtO.Swo lt) (heq : ∀ x y, (f x).eqb (f y) = decide (x = y)) (hok : ∀ x, (f x).okn n) (hn : n ≤ 60) (hform : ∀ x, ∃ i ds, f x = .tup (.int i :: ds))
    (hcm : ∀ x ∈ L, ∀ y ∈ L, pcm (f x).py (f y).py = true) (hlt : ∀ x ∈ L, ∀ y ∈ L, plt (f x).py (f y).py = lt x y) (hu : X.A.units + 70 < cLine) {Ψ : List D → Prop} (h : ∀ out : List α, SrtO.Srtd lt out → SrtO.Stb lt out L → Ψ (out.map f)) :
    CallF X G (.builtin "sorted") [.lst (L.map f)] Ψ := by
  intro S M H vs mt rv Q k pins s σ us I ra
  obtain ⟨v, rfl, r1⟩ := rv.inv1
  obtain ⟨a, xs, rfl, h1, g1⟩ := r1.lst_
  obtain ⟨u, rfl, ru⟩ := vals1 ra
  obtain rfl : u = Value.ref a := ru
  obtain ⟨its, rv, hl, hz⟩ := I.list h1.sq
  have pinj : ∀ x y, (f x).py = (f y).py → x = y := fun x y e => by
    have e1 := heq x y
    unfold D.eqb at e1
    rw [e, SeqAt.eqv_refl _ (hok y).1] at e1
    exact of_decide_eq_true e1.symm
  -- place by place
  have place : ∀ i u, its[i]? = some u → ∃ x, L[i]? = some x ∧ Rp X.K G S M H (backV u) (f x) ∧ (∃ as, Reads s.heap u (f x).py as) ∧ ∃ t, u = Value.ref t := fun i u hi => by
    obtain ⟨v, hv, rvu⟩ := vals_get rv hi
    obtain ⟨d, hd, rd⟩ := g1.getV hv
    rw [List.getElem?_map] at hd
    cases hx : L[i]? with
    | none => rw [hx] at hd; cases hd
    | some x =>
      rw [hx] at hd
      cases hd
      refine ⟨x, hx, ?_⟩
      obtain ⟨j, ds, ef⟩ := hform x
      have rd' := rd
      rw [ef] at rd'
      obtain ⟨t, zs, rfl, _, _⟩ := rd'.tup_
      have eu : u = Value.ref t := rvu
      subst eu
      exact ⟨rd, Dp.reads I _ _ _ (rd.dp (hok x).1) rfl, t, rfl⟩
  -- the key
  have kex : ∃ key : Value → α, ∀ u ∈ its, key u ∈ L ∧ Rp X.K G S M H (backV u) (f (key u)) ∧ (∃ as, Reads s.heap u (f (key u)).py as) := by
    have hall : ∀ u : Value, ∃ x : α, u ∈ its → x ∈ L ∧ Rp X.K G S M H (backV u) (f x) ∧ (∃ as, Reads s.heap u (f x).py as) := fun u => by
      by_cases hm : u ∈ its
      · obtain ⟨i, hi, rfl⟩ := List.getElem_of_mem hm
        obtain ⟨x, hx, q1, q2, _⟩ := place i _ (List.getElem?_eq_getElem hi)
        exact ⟨x, fun _ => ⟨List.mem_of_getElem? hx, q1, q2⟩⟩
      · exact ⟨default, fun z => absurd z hm⟩
    exact ⟨fun u => (hall u).choose, fun u hm => (hall u).choose_spec hm⟩
  obtain ⟨key, hkey⟩ := kex
  have hlen : its.length = L.length := by
    rw [← rv.length, g1.length, List.length_map]
  have hmap : its.map key = L := by
    apply List.ext_getElem?
    intro i
    rw [List.getElem?_map]
    cases hi : its[i]? with
    | none =>
      have : L.length ≤ i := by rw [← hlen]; exact List.getElem?_eq_none_iff.mp hi
      rw [List.getElem?_eq_none this]
      rfl
    | some u =>
      obtain ⟨x, hx, _, ⟨as, q2⟩, _⟩ := place i u hi
      obtain ⟨_, _, ⟨bs, q3⟩⟩ := hkey u (List.mem_of_getElem? hi)
      rw [hx]
      show some (key u) = some x
      rw [pinj _ _ (reads_fun q3 q2 (hok _).1)]
  have href : ∀ u ∈ its, ∃ t, u = Value.ref t := fun u hm => by
    obtain ⟨i, hi, rfl⟩ := List.getElem_of_mem hm
    exact (place i _ (List.getElem?_eq_getElem hi)).choose_spec.2.2.2
  refine SrtO.sorted_ord (ltv := fun u v => lt (key u) (key v)) ⟨fun x y => O.asym (key x) (key y), fun x y z => O.tr (key x) (key y) (key z)⟩ hl.isList (by rw [← rv.length]; exact hz) (fun h2 hp1 a' ha' kp => ?_) fun out h1 h2 => ?_
  · -- the kind, the comparisons
    intro h' keep
    have keepH : ∀ b o, s.heap.get? b = some o → h'.get? b = some o := fun b o e => keep b o (kp b o e).1 (kp b o e).2
    have first : ∀ v ∈ its, ∃ a o xs n i t, v = Value.ref a ∧ h'.get? a = some o ∧ o.cls = .type "tuple" ∧ o.data = .seq xs n ∧ xs[0]? = some (.int i t) := fun v hm => by
      obtain ⟨hL, _, ⟨as, q⟩⟩ := hkey v hm
      obtain ⟨j, ds, ef⟩ := hform (key v)
      rw [ef, D.py, D.pyA, D.py] at q
      cases q with
      | @tuple a1 o1 vs1 n1 _ _ e1 e2 e3 e4 =>
        obtain ⟨vs1l⟩ := vs1
        cases e4 with
        | @cons v0 vs0 _ _ _ _ r0 _ =>
          cases r0 with
          | int _ t0 => exact ⟨_, _, _, _, j, t0, rfl, keepH _ _ e1, e2, e3, by simp⟩
    obtain ⟨fs, f1, f2, f3⟩ := kat_firstI its first
    refine ⟨tuples' true, fun Q E hq => ?_, ?_⟩
    · refine PySem.W.kat_kind (T := .type "int") f1 (by omega) (fun f hm => ?_) (by rfl) ?_
      · obtain ⟨x, t, rfl⟩ := f3 f hm
        exact PySem.W.Looks.now
      · have e : (Value.type "int" != Value.type "tuple") = true := by first | decide +kernel | rfl | decide
        rw [e]
        exact hq
    · intro p q hm hm'
      obtain ⟨hp1, _, ⟨as, rp⟩⟩ := hkey _ hm
      obtain ⟨hq1, _, ⟨bs, rq⟩⟩ := hkey _ hm'
      have c1 := hcm _ hp1 _ hq1
      have e1 := hlt _ hp1 _ hq1
      show wpAny _ _ (keyLt' (tuples' true) p.1 q.1) (fun r s' => s' = _ ∧ r = lt (key p.1) (key q.1)) _ _
      rw [← e1]
      have o1 := hok (key p.1)
      have o2 := hok (key q.1)
      obtain ⟨i1, ds1, ef1⟩ := hform (key p.1)
      obtain ⟨i2, ds2, ef2⟩ := hform (key q.1)
      rw [ef1] at rp c1 o1 ⊢
      rw [ef2] at rq c1 o2 ⊢
      simp only [D.py] at rp rq c1 o1 o2 ⊢
      rw [pcm] at c1
      rw [plt]
      have o1' : PyData.canLayAll0 (D.pyA (D.int i1 :: ds1)) = true ∧ PyData.depthAll (D.pyA (D.int i1 :: ds1)) ≤ 60 := ⟨by have := o1.1; simp only [D.py, PyData.canLay0] at this; exact this, by have := o1.2; simp only [D.py, PyData.depth] at this; omega⟩
      have o2' : PyData.canLayAll0 (D.pyA (D.int i2 :: ds2)) = true ∧ PyData.depthAll (D.pyA (D.int i2 :: ds2)) ≤ 60 := ⟨by have := o2.1; simp only [D.py, PyData.canLay0] at this; exact this, by have := o2.2; simp only [D.py, PyData.depth] at this; omega⟩
      generalize p.1 = pv at rp ⊢
      generalize q.1 = qv at rq ⊢
      cases rp with
      | @tuple a1 ob1 vs1 n1 _ _ e1 e2 e3 e4 =>
      cases rq with
      | @tuple a2 ob2 vs2 n2 _ _ k1 k2 k3 k4 =>
        have l1 := readsAll_len e4
        have l2 := readsAll_len k4
        rw [Array.length_toList] at l1 l2
        refine PySem.W.kat_lt (keepH _ _ e1) e3 (keepH _ _ k1) k3 ?_
        refine kat_all (D.pyA (D.int i1 :: ds1)) (D.pyA (D.int i2 :: ds2)) _ _ _ _ 0 (ReadsAll.keeps keepH e4) (ReadsAll.keeps keepH k4) o1'.1 o2'.1 c1 ?_ (.inr ⟨i1, i2, D.pyA ds1, D.pyA ds2, by rw [D.pyA, D.py], by rw [D.pyA, D.py]⟩) (by rw [l1, l2]) ⟨rfl, rfl⟩
        show X.A.units + 1 + 1 + _ < _
        omega
  · -- the new list
    have hm : ∀ u ∈ out, u ∈ its := fun u hu => h2.perm.mem_iff.mp hu
    have h3 : ∀ u ∈ out, ∃ a, u = Value.ref a := fun u hu => href u (hm u hu)
    obtain ⟨ep, he'⟩ := PyProof.Rows.sortedAll_at s.heap its out.toArray
    have hlo : (out.map backV).length ≤ sizeLine := by
      rw [List.length_map, h2.perm.length_eq, ← rv.length]
      exact hz
    have hn := I.hok.fresh (Nat.le_succ s.heap.objs.size)
    have hb : SrtO.Stb lt (out.map key) L := by
      have := SrtO.Stb.map O key h2
      rw [hmap] at this
      exact this
    refine ⟨.ref _, upd H (s.heap.objs.size + 1) (.lst (out.map backV)), I.laid (t' := s.toks) (fun _ _ => PyProof.Rows.sortedAll_old) (Nat.le_succ _) ⟨hlo, out, ep, vals_back h3, he'⟩, rfl, ?_⟩
    refine k _ _ ((out.map key).map f) hn ?_ (h _ (SrtO.srtd_map h1) hb)
    rw [List.map_map]
    exact rpA_back (fun u => f (key u)) out fun u hu => (hkey u (hm u hu)).2.1
end
end DL

namespace DL
open PySem PySem.Spec PyProof.Rows L2
/-! ## objects, list.count of bools -/
structure CO (K : PySem.W.Frag) (C : Addr) (ns : List Str) : Prop where
  cl : L2.Cls K C
  no : ∀ n ∈ ns, NoAttr K C n
theorem look_zip {f : Str} {x : V} : ∀ (ns : List Str) (xs : List V) (i : Nat), ns.Nodup → ns[i]? = some f → xs[i]? = some x → (ns.zip xs).lookup f = some x
  | [], _, _, _, h, _ => by simp at h
  | _ :: _, [], _, _, _, h => by simp at h
  | n :: ns, v :: xs, 0, _, h1, h2 => by
    cases h1; cases h2
    simp [List.lookup]
  | n :: ns, v :: xs, i + 1, hd, h1, h2 => by
    have hd' := List.nodup_cons.mp hd
    have hm : f ∈ ns := List.mem_of_getElem? (by simpa using h1)
    have hne : (f == n) = false := beq_eq_false_iff_ne.mpr fun z => hd'.1 (z ▸ hm)
    rw [List.zip_cons_cons, List.lookup_cons, hne]
    exact look_zip ns xs i hd'.2 (by simpa using h1) (by simpa using h2)
/-- what __init__ of a class promises that writes its arguments into its fields -/
def spIni (C : Addr) (ns : List Str) : Sp := fun vs H Q _ => ∃ (p dx : Addr) (xs : List V), vs = .ref p :: xs ∧ xs.length = ns.length ∧ H p = some (.ins C dx []) ∧
  ∀ H', (∀ b, b ≠ p → H' b = H b) → H' p = some (.ins C dx (ns.zip xs)) → Q .non H'
section
variable {X : Cx} {G : Cls} {ρ : En} {pos p apos cpos : Pos} {e o : Expr} {es : List Expr} {x f : Str}
theorem we_fld {c i : Nat} {Φ : D → En → Prop} (co : CO X.K (G c).1 (G c).2) (hn : (G c).2.Nodup) (hi : (G c).2[i]? = some f) (hb : attributeBase e f X.env (eval e X.env) = eval e X.env)
    (h : WE X G e ρ fun x ρ1 => ∃ ds d, x = .obj c ds ∧ ds[i]? = some d ∧ Φ d ρ1) : WE X G (.Attribute e f pos) ρ Φ := fun S H0 M0 σ H M R Q k => by
  refine mE_of (pe_fld (pe_m X e) hb) (h S H0 M0 σ H M R _ fun v H1 M1 d1 ρ1 p1 R1 r1 w1 => ?_)
  obtain ⟨ds, d, rfl, hd, w⟩ := w1
  cases r1 with
  | @obj _ a dx xs _ nm hH ra =>
    obtain ⟨v', hv', rv⟩ := ra.get hd
    exact ⟨a, _, dx, _, v', rfl, hH, co.cl, co.no f (List.mem_of_getElem? hi), look_zip _ _ i hn hi hv', k v' H1 M1 d ρ1 p1 R1 rv w⟩
theorem we_make {c k : Nat} {g : Addr} {fd : FuncData} {ps : List Str} {Φ : D → En → Prop} (mk : Mk X.K (G c).1 g) (F : FnOk X.prog X.w X.K X.mg X.base CX0 k g fd ps (spIni (G c).1 (G c).2)) (hbi : Binds X.K fd ps []) (hr : Room (k + 1) X.A) (hg : Gl X x) (hm : X.mg x = some (.ref (G c).1))
    (hdb : (x == ("__debug__" : Str)) = false) (he : starEach (e :: es) X.env = (false, eval e X.env) :: starEach es X.env) (hpl : (backTo pos (starEach es X.env)).any (·.1) = false)
    (h : WA X G (e :: es) ρ fun ds ρ1 => ds.length = (G c).2.length ∧ Φ (.obj c ds) ρ1) : WE X G (.Call (.Name x p) (e :: es) [] pos) ρ Φ := fun S H0 M0 σ H M R Q kk => by
  refine mE_of (pe_make (E := E0) mk F hr hg hm hbi .nil pass0 (pa_m X (e :: es)) hdb he hpl) (h S H0 M0 σ H M R _ fun vs H1 M1 ds ρ1 p1 R1 r1 w1 => ?_)
  intro a dx na ndx nda
  rw [List.append_nil]
  refine ⟨a, dx, vs, rfl, by rw [r1.length]; exact w1.1, upd_same, fun H' o1 o2 => ⟨rfl, ?_⟩⟩
  have sm : Same H1 H' := fun b z hb => by
    have n1 : b ≠ a := ne_of_none hb na
    have n2 : b ≠ dx := ne_of_none hb ndx
    rw [o1 b n1, upd_ne n1, upd_ne n2]
    exact hb
  refine kk _ H' M1 (.obj c ds) ρ1 (p1.trans (pre_of_same sm)) (R1.same sm) (.obj (fun m => R1.mt a m na) o2 (r1.pre (pre_of_same sm))) w1.2
end
/-! ### xs.count(b), bools -/
def eqB (b : Bool) : Value → Bool
  | .bool c => c == b
  | _ => false
def rCntB (K : PySem.W.Frag) : V → List V → Hp → VK → Prop := fun x xs H Q => ∃ (p : Addr) (bs : List Bool) (k : Bool), x = .ref p ∧ xs = [.bl k] ∧ SqL K H p (bs.map V.bl) ∧ Q (.int (bs.count k : Nat)) H
theorem vals_bls : ∀ {bs : List Bool} {us : List Value}, Vals (bs.map V.bl) us → us = bs.map Value.bool
  | [], _, h => by cases h; rfl
  | b :: bs, _, h => by
    cases h with
    | cons r t => rw [vals_bls t]; cases r; rfl
theorem mt_lcountB {X : Cx} : MtR X "list.count" (rCntB X.K) := by
  intro pins s σ H x xs v us Q I rx rxs h
  obtain ⟨p, bs, k, rfl, rfl, hs, q⟩ := h
  cases rx
  obtain ⟨u, rfl, ru⟩ := rxs.one
  cases ru
  obtain ⟨its, rv, ⟨⟨cls, dd, data, sl⟩, n, ho, hc, hdn, hd⟩, hlen⟩ := I.list hs
  simp only at hc hd
  subst hc hd
  have hi := vals_bls rv
  subst hi
  refine call_meets PySem.F.slot_list_count ⟨_, ho, rfl⟩ PySem.F.entry_list_count (PySem.F.args_list_count_2 _ _)
    (SeqAt.list_countAt p (bs.map Value.bool).toArray n dd sl (.bool k) (eqB k)) ⟨ho, fun y hy => ?_, ?_⟩
  · obtain ⟨c, _, rfl⟩ := List.mem_map.mp (show y ∈ bs.map Value.bool by simpa using hy)
    exact SeqAt.EqAt.bool_bool c k
  have ec : ((bs.map Value.bool).toArray.toList.countP (eqB k)) = bs.count k := by
    show (bs.map Value.bool).countP (eqB k) = bs.count k
    rw [List.countP_map]
    rfl
  refine ⟨.int (bs.count k : Nat), H, I.tok _, ⟨s.toks, ?_⟩, q⟩
  show Value.int (((bs.map Value.bool).toArray.toList.countP (eqB k) : Nat) : Int) s.toks = Value.int ((bs.count k : Nat) : Int) s.toks
  rw [ec]
section
variable {X : Cx} {G : Cls} {ρ : En} {apos cpos : Pos} {e o : Expr} {es : List Expr}
theorem we_countB {Φ : D → En → Prop} (h : WE X G o ρ fun x ρ1 => ∃ bs : List Bool, x = .lst (bs.map D.bl) ∧ WA X G (e :: es) ρ1 fun as ρ2 => ∃ b, as = [.bl b] ∧ Φ (.int (bs.count b : Nat)) ρ2)
    (hbase : attributeBase o "count" X.env (eval o X.env) = eval o X.env := by rfl)
    (hfew : ((backTo cpos (starEach (e :: es) X.env)).all (fun x => !x.1) && (backToKw cpos (keywordEach [] X.env)).all (fun x => x.1.isSome)
      && decide ((e :: es).length + ([] : List Keyword).length + (if ([] : List Keyword).isEmpty then 0 else 1) < 30)) = true := by rfl)
    (hline : (apos.endLine == cpos.line) = true := by rfl) (hs : starEach (e :: es) X.env = (false, eval e X.env) :: starEach es X.env := by rfl) (hplain : (backTo cpos (starEach es X.env)).any (·.1) = false := by rfl) :
    WE X G (.Call (.Attribute o "count" apos) (e :: es) [] cpos) ρ Φ := fun S H0 M0 σ H M R Q k => by
  refine mE_of (pe_bm PySem.F.plainAttrs_list PySem.F.slot_list_count PySem.F.type_list_count mt_lcountB (pe_m X o) (pa_m X (e :: es)) hbase hfew hline hs hplain) ?_
  refine h S H0 M0 σ H M R _ fun v H1 M1 d1 ρ1 p1 R1 r1 w1 => ?_
  obtain ⟨bs, rfl, w1⟩ := w1
  obtain ⟨a, xs, rfl, h1, g1⟩ := r1.lst_
  have g1' := rpA_bls g1
  subst g1'
  refine ⟨.inl ⟨rfl, _, h1.sq⟩, w1 S H0 M0 σ H1 M1 R1 _ fun as H2 M2 ds ρ2 p2 R2 r2 w2 => ?_⟩
  obtain ⟨b, rfl, w2⟩ := w2
  obtain ⟨u, rfl, ru⟩ := r2.inv1
  rw [ru.bl_]
  exact ⟨a, bs, b, rfl, rfl, (h1.pre p2).sq, k _ H2 M2 _ ρ2 (p1.trans p2) R2 (.int _) w2⟩
end
end DL

namespace DL
open PySem PySem.Spec PyProof.Rows L2
/-! ## enumerate(tuple) -/
theorem enumNewT (tp : Addr) (ob : Obj) (xs : Array Value) (nn : Nat) (c1 : ob.cls = .type "tuple") (d1 : ob.data = .seq xs nn) :
    Meets (Builtin.«enumerate.__new__» ⟨[.type "enumerate", .ref tp], []⟩) (fun _ R st => st.heap.get? tp = some ob ∧
      R (.ok (.ret (.ref (st.heap.push { cls := .type "tuple_iterator", data := .fields #[.ref tp, .int 0 0] }).objs.size)))
        { st with heap := (st.heap.push { cls := .type "tuple_iterator", data := .fields #[.ref tp, .int 0 0] }).push { cls := .type "enumerate", data := .fields #[.none, .bool false, .ref st.heap.objs.size, rawInt 0, .none, .none] } }) :=
  .of_wp fun prog w A R st hh => by
    obtain ⟨hp, gg, dd, tk, os⟩ := st; obtain ⟨g1, hh⟩ := hh
    have hsub := sub_enumerate
    have hT : Heap.IsTuple (Shared.heap ⟨hp, gg, dd, tk, os⟩) tp xs := ⟨_, g1, c1, nn, d1⟩
    obtain ⟨cls, dct, data, sl⟩ := ob
    cases c1
    cases d1
    wp_walk using AutoSeq1.wpAny_loadPart' g1
    refine wpAny_stack_any fun stk => wpAny_pure ?_
    split
    · rename_i c _ _ _ _ _
      cases (c == Value.type "enumerate")
      · wp_walk using AutoSeq1.wpAny_loadPart' g1, wpAny_pyIter_tuple hT
        exact ⟨_, rfl, hh⟩
      · wp_walk using AutoSeq1.wpAny_loadPart' g1, wpAny_pyIter_tuple hT
        exact ⟨_, rfl, hh⟩
    · wp_walk using AutoSeq1.wpAny_loadPart' g1, wpAny_pyIter_tuple hT
      exact ⟨_, rfl, hh⟩
theorem callEnumT {prog : Program} {w : World} {A : Around} {E : Value → Shared → Prop} {st : Shared} {tp : Addr} {xs : Array Value} {Q : Value → Shared → Prop} (hT : st.heap.IsTuple tp xs)
    (k : ∀ h2, IsEnum h2 (st.heap.objs.size + 1) st.heap.objs.size 0 .none → h2.IsTupleIter st.heap.objs.size tp 0 → h2.objs.size = st.heap.objs.size + 2 →
      (∀ b o, st.heap.get? b = some o → h2.get? b = some o) → Q (.ref (st.heap.objs.size + 1)) { st with heap := h2 }) :
    wpAny (model prog w) A (call (.type "enumerate") [.ref tp]) Q E st := by
  obtain ⟨ob, g1, c1, nn, d1⟩ := hT
  refine callType_new F.called_enumerate (by decide) (F.typeCall_enumerate_1 _) (F.newCall_enumerate_1 _) (fun z => F.args_object_init_2 z _) F.entry_enumerate_new (enumNewT tp ob xs nn c1 d1) ⟨g1, ?_⟩
  have z1 : (st.heap.push { cls := .type "tuple_iterator", data := .fields #[.ref tp, .int 0 0] }).objs.size = st.heap.objs.size + 1 := Heap.size_push ..
  show _ ∧ _
  rw [z1]
  have e1 := Heap.get?_push_size (st.heap.push { cls := .type "tuple_iterator", data := .fields #[.ref tp, .int 0 0] }) (o := { cls := .type "enumerate", data := .fields #[.none, .bool false, .ref st.heap.objs.size, rawInt 0, .none, .none] }) rfl
  rw [z1] at e1
  exact ⟨⟨_, e1, rfl⟩, k _ e1 ⟨_, Heap.get?_push_of_some _ (Heap.get?_push_size _ rfl), rfl, rfl⟩ (by rw [Heap.size_push, z1]) fun b o x => Heap.get?_push_of_some _ (Heap.get?_push_of_some _ x)⟩
/-- the tuple at a, each item in a new pair -/
def IteT (K : PySem.W.Frag) (a : Addr) : It :=
  ⟨fun i H => ∃ (zs : List V) (x : V), SqT K H a zs ∧ zs[i]? = some x, fun i H v H' => ∃ T x, v = .ref T ∧ H T = none ∧ H' = upd H T (.tup [.int (i : Nat), x]) ∧ ∀ zs, SqT K H a zs → zs[i]? = some x, fun i H => ∃ zs : List V, SqT K H a zs ∧ zs.length ≤ i⟩
theorem turn_enumT {P : Program} {w : World} {K : PySem.W.Frag} {elts : List Expr} {kk : Nat} {tpos : Pos} (a e it : Addr) :
    Turn P w K (.Tuple elts kk tpos) (IteT K a) [e, it] e (fun i h => (∃ old, IsEnum h e it ((i : Nat) : Int) old) ∧ h.IsTupleIter it a i ∧ e ≠ it) where
  mem := by simp
  obj := fun i h s1 b hb => by
    obtain ⟨⟨old, he⟩, ⟨o, ho, hc, hd⟩, _⟩ := s1
    have e3 : b = e ∨ b = it := by simpa using hb
    rcases e3 with z | z
    · cases z; exact ⟨_, he, fun v q => nomatch q⟩
    · cases z; exact ⟨o, ho, fun v q => by rw [hd] at q; cases q⟩
  keep := fun i h h2 s1 k => let ⟨⟨old, he⟩, hi, hne⟩ := s1; ⟨⟨old, k e (by simp) _ he⟩, hi.at fun o q => k it (by simp) o q, hne⟩
  item := by
    intro X hP hw hK hc i pins s σ H E I hf s1 hg
    subst hP hw hK
    obtain ⟨⟨old, he⟩, hit, hne⟩ := s1
    obtain ⟨zs, x, hq, hx⟩ := hg
    obtain ⟨its, rvs, pt, hzs⟩ := I.tuple hq
    obtain ⟨u, hu, ru⟩ := rvs.get hx
    have lte : e < s.heap.objs.size := Heap.lt_size he
    have lti : it < s.heap.objs.size := by obtain ⟨_, q, _⟩ := hit; exact Heap.lt_size q
    have nai : a ≠ it := fun z => by
      obtain ⟨o1, g1, c1, _⟩ := hit
      obtain ⟨o2, g2, c2, _⟩ := pt
      rw [z, g1] at g2
      cases g2
      rw [c1] at c2
      exact absurd c2 (by simp)
    have nea : e ≠ a := fun z => by
      obtain ⟨o2, g2, c2, _⟩ := pt
      have g1 := he
      unfold IsEnum at g1
      rw [z, g2] at g1
      cases g1
      exact absurd (Value.type.inj c2) (by decide)
    have hlt : i < its.toArray.size := by rw [List.size_toArray]; exact (List.getElem?_eq_some_iff.mp hu).1
    refine wpAny_pyNext_enum_itemD (n := its.toArray.size) (P := fun i v => its.toArray[i]? = some v) (Draws.tuple (A := X.A.in1) (I.ok.hd hc) it a nai its.toArray) he ⟨hit, pt⟩ hlt hne (by simp [hne, nea]) fun y h2 tk hPy ho hit2 hT hsz hkp => ?_
    have hy : y = u := by
      have : its.toArray[i]? = some u := by simpa using hu
      rw [this] at hPy
      exact (Option.some.inj hPy).symm
    subst hy
    refine ⟨_, rfl, wpAny_letOwnedTupleGo_enum (s := { s with heap := h2, toks := tk + 1 }) ho fun h3 he3 sb => ?_⟩
    have hT2 : h3.get? s.heap.objs.size = some { cls := .type "tuple", data := .seq #[.int i tk, y] } := (sb.2 _ (Nat.ne_of_gt lte)).trans hT
    have new : ObjOk X.prog X.w (upd H s.heap.objs.size (.tup [.int (i : Nat), x])) h3 s.heap.objs.size (.tup [.int (i : Nat), x]) :=
      ⟨sz_le (show 2 ≤ 1000000 by decide), [.int i tk, y], .cons ⟨_, rfl⟩ (.cons ru .nil), ⟨_, hT2, rfl, _, rfl⟩⟩
    have I1 : Inv X pins σ (upd H s.heap.objs.size (.tup [.int (i : Nat), x])) { s with heap := h3, toks := tk + 1 } :=
      I.turnedNew (ch := [e, it]) (fun b ob hb q => (sb.2 b (fun z => hb (by simp [z]))).trans (hkp b ob (fun z => hb (by simp [z])) (fun z => hb (by simp [z])) q)) hf (Nat.le_refl _) new
    refine ⟨.ref s.heap.objs.size, _, I1, rfl, ⟨_, x, rfl, I.hok.fresh (Nat.le_refl _), rfl, fun ys hy => by rw [I.tuple_inj hy hq]; exact hx⟩, ⟨⟨y, ?_⟩, hit2.1.at fun o q => (sb.2 it (Ne.symm hne)).trans q, hne⟩, fun b hb => ?_⟩
    · have e1 : ((i + 1 : Nat) : Int) = (i : Int) + 1 := by omega
      rw [e1]
      exact he3
    · have hb' : b < s.heap.objs.size := by
        have e3 : b = e ∨ b = it := by simpa using hb
        rcases e3 with z | z
        · rw [z]; exact lte
        · rw [z]; exact lti
      rw [upd_ne (Nat.ne_of_lt hb')]
      exact (hf b hb).1
  done := by
    intro X hP hw hK hc i pins s σ H E I hf s1 hg
    subst hP hw hK
    obtain ⟨⟨old, he⟩, hit, hne⟩ := s1
    obtain ⟨zs, hq, hx⟩ := hg
    obtain ⟨its, rvs, pt, hzs⟩ := I.tuple hq
    obtain ⟨f0, f1, f2, f3, f4, f5⟩ := hf it (by simp)
    have hl := rvs.length
    have nai : a ≠ it := fun z => by
      obtain ⟨o1, g1, c1, _⟩ := hit
      obtain ⟨o2, g2, c2, _⟩ := pt
      rw [z, g1] at g2
      cases g2
      rw [c1] at c2
      exact absurd c2 (by simp)
    have tyE : s.TypeIs (.ref e) "enumerate" := ⟨_, he, rfl⟩
    unfold pyNext
    refine wpAny_bind (wpAny_attempt (wpAny_callSpecial?_slot (name := Str.ofString "__next__") tyE F.slot_enumerate_next (wpAny_call_entry F.slot_enumerate_next tyE F.entry_enumerate_next ?_ (F.args_enumerate_next_1 _))))
    show wpAny _ _ (PySem.field (.ref e) 2 >>= _) _ _ _
    refine wpAny_bind (wpAny_field he rfl (x := .ref it) rfl (wpAny_bind (wpAny_nextOf_tuple_end (I.ok.hd hc) hit pt (by simp; omega) fun h2 ex eb xx => ?_)))
    obtain ⟨o3, g3, c3⟩ := xx
    refine wpAny_bind (wpAny_isInstance (T := "StopIteration") (b := true) ⟨o3, g3, c3⟩ isSubtype_stop (wpAny_pure ?_))
    exact ⟨rfl, I.turned (t' := s.toks) (fun b o hb q => eb b o hb q) f0 f1 f3 f4 f5⟩
  self := fun A i s Q E s1 h => let ⟨⟨_, he⟩, _⟩ := s1; wpAny_pyIter_enum he h
/-! ### the iteration -/
def iEnumT (K : PySem.W.Frag) (ta : TA) : TI := fun σ H R => ta σ H fun vs H1 => ∃ a zs, vs = [.ref a] ∧ SqT K H1 a zs ∧ R (IteT K a) H1
theorem pi_enumT {X : Cx} {ex : Expr} {ta : TA} {p pos tpos : Pos} {elts : List Expr} {kk : Nat} (hg : Gl X "enumerate") (hm : X.mg "enumerate" = none) (ha : PA X [ex] ta) (hs : starEach [ex] X.env = [(false, eval ex X.env)]) :
    PI X (.Tuple elts kk tpos) (.Call (.Name "enumerate" p) [ex] [] pos) (iEnumT X.K ta) := by
  refine ⟨fun pins s σ H R I hh => ?_⟩
  refine Call_ (ld_blt I hg hm boot_enumerate (PyProof.Rows.callWith_type1 (thn (ha.run pos pins s σ H _ I hh) fun us s1 ⟨vs, H1, I1, r1, a, zs, e1, hq, q⟩ => ?_) hs rfl))
  subst e1
  obtain ⟨u, rfl, ru⟩ := vals1 r1
  obtain rfl : u = Value.ref a := ru
  obtain ⟨its, rv, p1, hz⟩ := I1.tuple hq
  refine callEnumT p1 fun h2 he hit hsz hkp => wpAny_pyIter_enum he ?_
  have I2 : Inv X pins σ H1 { s1 with heap := h2 } := I1.kept (t' := s1.toks) hkp
  refine ⟨s1.heap.objs.size + 1, [s1.heap.objs.size + 1, s1.heap.objs.size], _, _, H1, rfl, I2, turn_enumT a (s1.heap.objs.size + 1) s1.heap.objs.size, ⟨⟨.none, he⟩, hit, Nat.succ_ne_self _⟩, fun b hb => ?_, q⟩
  have e3 : b = s1.heap.objs.size + 1 ∨ b = s1.heap.objs.size := by simpa using hb
  have hle : s1.heap.objs.size ≤ b := e3.elim (fun z => z ▸ Nat.le_add_right _ _) (fun z => z ▸ Nat.le_refl _)
  exact I1.fpOk hle (I1.hok.fresh hle)
theorem wi_enumT {X : Cx} {G : Cls} {ρ : En} {a : Expr} {p pos tpos : Pos} {elts : List Expr} {kk : Nat} {Φ : List D → En → Prop} (hg : Gl X "enumerate") (hm : X.mg "enumerate" = none) (hs : starEach [a] X.env = [(false, eval a X.env)])
    (h : WA X G [a] ρ fun ds ρ1 => ∃ xs, ds = [.tup xs] ∧ Φ (enumD xs) ρ1) : WI X G (.Tuple elts kk tpos) (.Call (.Name "enumerate" p) [a] [] pos) ρ Φ := fun S H0 M0 σ H M R Q k => by
  refine mI_of (pi_enumT hg hm (pa_m X [a]) hs) (h S H0 M0 σ H M R _ fun vs H1 M1 ds ρ1 p1 R1 r1 w1 => ?_)
  obtain ⟨xs, rfl, w⟩ := w1
  obtain ⟨u, rfl, ru⟩ := r1.inv1
  obtain ⟨a, us, rfl, h1, g1⟩ := ru.tup_
  refine ⟨a, us, rfl, h1.sq, k _ H1 M1 _ ρ1 p1 R1 (fun M' H' p mt i => ⟨fun d hd => ?_, fun hl => ?_⟩) w⟩
  · obtain ⟨x, e1, rfl⟩ := enumD_get hd
    obtain ⟨vx, hx, rx⟩ := (g1.pre p).get e1
    refine ⟨⟨us, vx, (h1.pre p).sq, hx⟩, fun z H'' q => ?_⟩
    obtain ⟨T, x', rfl, nT, rfl, f1⟩ := q
    have q1 := f1 us (h1.pre p).sq
    rw [hx] at q1
    cases q1
    exact ⟨same_upd nT, Rp.tupN mt nT (.cons (.int _) (.one rx))⟩
  · refine ⟨us, (h1.pre p).sq, ?_⟩
    rw [enumD_length] at hl
    rw [g1.length]
    exact hl
theorem ienumT {X : Cx} {G : Cls} {ρ : En} {a : Expr} {p pos tpos : Pos} {elts : List Expr} {kk : Nat} {Φ : List D → En → Prop} (h : WA X G [a] ρ fun ds ρ1 => ∃ xs, ds = [.tup xs] ∧ Φ (enumD xs) ρ1) (hm : X.mg "enumerate" = none := by assumption) (hg : Gl X "enumerate" := by rfl) (hs : starEach [a] X.env = [(false, eval a X.env)] := by rfl) : WI X G (.Tuple elts kk tpos) (.Call (.Name "enumerate" p) [a] [] pos) ρ Φ := wi_enumT hg hm hs h
section
variable {X : Cx} {G : Cls} {ρ : En} {pos p apos cpos : Pos} {e o : Expr} {es : List Expr} {x f : Str}
theorem efld (c i : Nat) {Φ : D → En → Prop} (h : WE X G e ρ fun x ρ1 => ∃ ds d, x = .obj c ds ∧ ds[i]? = some d ∧ Φ d ρ1) (co : CO X.K (G c).1 (G c).2 := by assumption) (hn : (G c).2.Nodup := by assumption) (hi : (G c).2[i]? = some f := by assumption) (hb : attributeBase e f X.env (eval e X.env) = eval e X.env := by rfl) : WE X G (.Attribute e f pos) ρ Φ := we_fld co hn hi hb h
end
end DL

namespace DL
open PySem PySem.Spec PyProof.Rows L2
/-- fn_body for a def with defaults -/
theorem fn_bodyD {P : Program} {w : World} {K : PySem.W.Frag} {mg : Str → Option Value} {base : Heap} {G : Cls} {x qual : Str} {st : Stmt} {f : Addr} {fd : FuncData} {N ps : List Str} {k : Nat} {spec : DSpec} {dvs : List V} {kws : List (Str × V)}
    (F : FunD K x qual (defArgs st) (defBody st) (defScope st) dvs kws f fd) (S : FnScope N ps (defScope st)) (len : ∀ ds Ψ, spec ds Ψ → ds.length = ps.length)
    (body : BodyOk P w K mg base G k N qual st spec) : FnOk P w K mg base CX0 (k + 1) f fd ps (SpD K G spec) := by
  refine F.ok S (fun vs H Q E h => ?_) (fun cdv A outer s H vs Q E hr h => ?_)
  · obtain ⟨S, M, ds, Ψ, _, _, r, hs, _⟩ := h
    rw [r.length]
    exact len ds Ψ hs
  · obtain ⟨So, M, ds, Ψ, mt, sr, r, hs, q⟩ := h
    refine ⟨_, (pss_m (CtD P w K mg base N qual st f cdv A outer s H E) _).nox, ?_⟩
    refine body f cdv A outer s H E hr ds Ψ hs So H M _ H M (start_rep mt sr r) _ ?_
    exact ⟨fun σ' H' M' ρ' p R' w => q .non H' .non (fun b o e n => R'.fr b o e n) (fun a ea => (R'.src a ea).1.mono R'.m0) .non w,
      fun v σ' H' M' d ρ' p R' rv w => q v H' d (fun b o e n => R'.fr b o e n) (fun a ea => (R'.src a ea).1.mono R'.m0) (rv.pre fun b o e n => ⟨e, fun z => n (R'.m0 b z)⟩) w,
      fun _ _ _ _ _ _ w => w.elim, fun _ _ _ _ _ _ w => w.elim⟩
end DL

namespace DL
open PySem PySem.Spec PyProof.Rows L2
section
variable {X : Cx} {G : Cls} {α : Type}
theorem cf_sortedN [Inhabited α] [DecidableEq α] (f : α → D) (lt : α → α → Bool) (L : List α) {n : Nat} (O : SrtO.Swo lt) (heq : ∀ x y, (f x).eqb (f y) = decide (x = y)) (hok : ∀ x, (f x).okn n) (hn : n ≤ 60) (hform : ∀ x, ∃ ds, f x = .tup ds) (hfirst : 2 ≤ L.length → ∀ x ∈ L, ∃ i ds, f x = .tup (.int i :: ds))
    (hcm : ∀ x ∈ L, ∀ y ∈ L, pcm (f x).py (f y).py = true) (hlt : ∀ x ∈ L, ∀ y ∈ L, plt (f x).py (f y).py = lt x y) (hu : X.A.units + 70 < cLine) {Ψ : List D → Prop} (h : ∀ out : List α, SrtO.Srtd lt out → SrtO.Stb lt out L → Ψ (out.map f)) :
    CallF X G (.builtin "sorted") [.lst (L.map f)] Ψ := by
  intro S M H vs mt rv Q k pins s σ us I ra
  obtain ⟨v, rfl, r1⟩ := rv.inv1
  obtain ⟨a, xs, rfl, h1, g1⟩ := r1.lst_
  obtain ⟨u, rfl, ru⟩ := vals1 ra
  obtain rfl : u = Value.ref a := ru
  obtain ⟨its, rv, hl, hz⟩ := I.list h1.sq
  have pinj : ∀ x y, (f x).py = (f y).py → x = y := fun x y e => by
    have e1 := heq x y
    unfold D.eqb at e1
    rw [e, SeqAt.eqv_refl _ (hok y).1] at e1
    exact of_decide_eq_true e1.symm
  -- place by place
  have place : ∀ i u, its[i]? = some u → ∃ x, L[i]? = some x ∧ Rp X.K G S M H (backV u) (f x) ∧ (∃ as, Reads s.heap u (f x).py as) ∧ ∃ t, u = Value.ref t := fun i u hi => by
    obtain ⟨v, hv, rvu⟩ := vals_get rv hi
    obtain ⟨d, hd, rd⟩ := g1.getV hv
    rw [List.getElem?_map] at hd
    cases hx : L[i]? with
    | none => rw [hx] at hd; cases hd
    | some x =>
      rw [hx] at hd
      cases hd
      refine ⟨x, hx, ?_⟩
      obtain ⟨ds, ef⟩ := hform x
      have rd' := rd
      rw [ef] at rd'
      obtain ⟨t, zs, rfl, _, _⟩ := rd'.tup_
      have eu : u = Value.ref t := rvu
      subst eu
      exact ⟨rd, Dp.reads I _ _ _ (rd.dp (hok x).1) rfl, t, rfl⟩
  -- the key
  have kex : ∃ key : Value → α, ∀ u ∈ its, key u ∈ L ∧ Rp X.K G S M H (backV u) (f (key u)) ∧ (∃ as, Reads s.heap u (f (key u)).py as) := by
    have hall : ∀ u : Value, ∃ x : α, u ∈ its → x ∈ L ∧ Rp X.K G S M H (backV u) (f x) ∧ (∃ as, Reads s.heap u (f x).py as) := fun u => by
      by_cases hm : u ∈ its
      · obtain ⟨i, hi, rfl⟩ := List.getElem_of_mem hm
        obtain ⟨x, hx, q1, q2, _⟩ := place i _ (List.getElem?_eq_getElem hi)
        exact ⟨x, fun _ => ⟨List.mem_of_getElem? hx, q1, q2⟩⟩
      · exact ⟨default, fun z => absurd z hm⟩
    exact ⟨fun u => (hall u).choose, fun u hm => (hall u).choose_spec hm⟩
  obtain ⟨key, hkey⟩ := kex
  have hlen : its.length = L.length := by
    rw [← rv.length, g1.length, List.length_map]
  have hmap : its.map key = L := by
    apply List.ext_getElem?
    intro i
    rw [List.getElem?_map]
    cases hi : its[i]? with
    | none =>
      have : L.length ≤ i := by rw [← hlen]; exact List.getElem?_eq_none_iff.mp hi
      rw [List.getElem?_eq_none this]
      rfl
    | some u =>
      obtain ⟨x, hx, _, ⟨as, q2⟩, _⟩ := place i u hi
      obtain ⟨_, _, ⟨bs, q3⟩⟩ := hkey u (List.mem_of_getElem? hi)
      rw [hx]
      show some (key u) = some x
      rw [pinj _ _ (reads_fun q3 q2 (hok _).1)]
  have href : ∀ u ∈ its, ∃ t, u = Value.ref t := fun u hm => by
    obtain ⟨i, hi, rfl⟩ := List.getElem_of_mem hm
    exact (place i _ (List.getElem?_eq_getElem hi)).choose_spec.2.2.2
  refine SrtO.sorted_ord (ltv := fun u v => lt (key u) (key v)) ⟨fun x y => O.asym (key x) (key y), fun x y z => O.tr (key x) (key y) (key z)⟩ hl.isList (by rw [← rv.length]; exact hz) (fun h2 hp1 a' ha' kp => ?_) fun out h1 h2 => ?_
  · -- the kind, the comparisons
    intro h' keep
    have keepH : ∀ b o, s.heap.get? b = some o → h'.get? b = some o := fun b o e => keep b o (kp b o e).1 (kp b o e).2
    have first : ∀ v ∈ its, ∃ a o xs n i t, v = Value.ref a ∧ h'.get? a = some o ∧ o.cls = .type "tuple" ∧ o.data = .seq xs n ∧ xs[0]? = some (.int i t) := fun v hm => by
      obtain ⟨hL, _, ⟨as, q⟩⟩ := hkey v hm
      obtain ⟨j, ds, ef⟩ := hfirst (by omega) (key v) hL
      rw [ef, D.py, D.pyA, D.py] at q
      cases q with
      | @tuple a1 o1 vs1 n1 _ _ e1 e2 e3 e4 =>
        obtain ⟨vs1l⟩ := vs1
        cases e4 with
        | @cons v0 vs0 _ _ _ _ r0 _ =>
          cases r0 with
          | int _ t0 => exact ⟨_, _, _, _, j, t0, rfl, keepH _ _ e1, e2, e3, by simp⟩
    obtain ⟨fs, f1, f2, f3⟩ := kat_firstI its first
    refine ⟨tuples' true, fun Q E hq => ?_, ?_⟩
    · refine PySem.W.kat_kind (T := .type "int") f1 (by omega) (fun f hm => ?_) (by rfl) ?_
      · obtain ⟨x, t, rfl⟩ := f3 f hm
        exact PySem.W.Looks.now
      · have e : (Value.type "int" != Value.type "tuple") = true := by first | decide +kernel | rfl | decide
        rw [e]
        exact hq
    · intro p q hm hm'
      obtain ⟨hp1, _, ⟨as, rp⟩⟩ := hkey _ hm
      obtain ⟨hq1, _, ⟨bs, rq⟩⟩ := hkey _ hm'
      have c1 := hcm _ hp1 _ hq1
      have e1 := hlt _ hp1 _ hq1
      show wpAny _ _ (keyLt' (tuples' true) p.1 q.1) (fun r s' => s' = _ ∧ r = lt (key p.1) (key q.1)) _ _
      rw [← e1]
      have o1 := hok (key p.1)
      have o2 := hok (key q.1)
      obtain ⟨i1, ds1, ef1⟩ := hfirst (by omega) (key p.1) hp1
      obtain ⟨i2, ds2, ef2⟩ := hfirst (by omega) (key q.1) hq1
      rw [ef1] at rp c1 o1 ⊢
      rw [ef2] at rq c1 o2 ⊢
      simp only [D.py] at rp rq c1 o1 o2 ⊢
      rw [pcm] at c1
      rw [plt]
      have o1' : PyData.canLayAll0 (D.pyA (D.int i1 :: ds1)) = true ∧ PyData.depthAll (D.pyA (D.int i1 :: ds1)) ≤ 60 := ⟨by have := o1.1; simp only [D.py, PyData.canLay0] at this; exact this, by have := o1.2; simp only [D.py, PyData.depth] at this; omega⟩
      have o2' : PyData.canLayAll0 (D.pyA (D.int i2 :: ds2)) = true ∧ PyData.depthAll (D.pyA (D.int i2 :: ds2)) ≤ 60 := ⟨by have := o2.1; simp only [D.py, PyData.canLay0] at this; exact this, by have := o2.2; simp only [D.py, PyData.depth] at this; omega⟩
      generalize p.1 = pv at rp ⊢
      generalize q.1 = qv at rq ⊢
      cases rp with
      | @tuple a1 ob1 vs1 n1 _ _ e1 e2 e3 e4 =>
      cases rq with
      | @tuple a2 ob2 vs2 n2 _ _ k1 k2 k3 k4 =>
        have l1 := readsAll_len e4
        have l2 := readsAll_len k4
        rw [Array.length_toList] at l1 l2
        refine PySem.W.kat_lt (keepH _ _ e1) e3 (keepH _ _ k1) k3 ?_
        refine kat_all (D.pyA (D.int i1 :: ds1)) (D.pyA (D.int i2 :: ds2)) _ _ _ _ 0 (ReadsAll.keeps keepH e4) (ReadsAll.keeps keepH k4) o1'.1 o2'.1 c1 ?_ (.inr ⟨i1, i2, D.pyA ds1, D.pyA ds2, by rw [D.pyA, D.py], by rw [D.pyA, D.py]⟩) (by rw [l1, l2]) ⟨rfl, rfl⟩
        show X.A.units + 1 + 1 + _ < _
        omega
  · -- the new list
    have hm : ∀ u ∈ out, u ∈ its := fun u hu => h2.perm.mem_iff.mp hu
    have h3 : ∀ u ∈ out, ∃ a, u = Value.ref a := fun u hu => href u (hm u hu)
    obtain ⟨ep, he'⟩ := PyProof.Rows.sortedAll_at s.heap its out.toArray
    have hlo : (out.map backV).length ≤ sizeLine := by
      rw [List.length_map, h2.perm.length_eq, ← rv.length]
      exact hz
    have hn := I.hok.fresh (Nat.le_succ s.heap.objs.size)
    have hb : SrtO.Stb lt (out.map key) L := by
      have := SrtO.Stb.map O key h2
      rw [hmap] at this
      exact this
    refine ⟨.ref _, upd H (s.heap.objs.size + 1) (.lst (out.map backV)), I.laid (t' := s.toks) (fun _ _ => PyProof.Rows.sortedAll_old) (Nat.le_succ _) ⟨hlo, out, ep, vals_back h3, he'⟩, rfl, ?_⟩
    refine k _ _ ((out.map key).map f) hn ?_ (h _ (SrtO.srtd_map h1) hb)
    rw [List.map_map]
    exact rpA_back (fun u => f (key u)) out fun u hu => (hkey u (hm u hu)).2.1
end
/-! ### the order of tuples of ints -/
def ltL : List Int → List Int → Bool
  | [], [] => false
  | [], _ :: _ => true
  | _ :: _, [] => false
  | x :: xs, y :: ys => if x = y then ltL xs ys else decide (x < y)
theorem ltL_asym : ∀ x y : List Int, ltL x y = true → ltL y x = false
  | [], [], h => by cases h
  | [], _ :: _, _ => rfl
  | _ :: _, [], h => by cases h
  | a :: x, b :: y, h => by
    unfold ltL at h ⊢
    by_cases e : a = b
    · rw [if_pos e] at h
      rw [if_pos e.symm]
      exact ltL_asym x y h
    · rw [if_neg e] at h
      rw [if_neg fun z => e z.symm]
      have := of_decide_eq_true h
      exact decide_eq_false (by omega)
theorem ltL_tr : ∀ x y z : List Int, ltL y x = false → ltL z y = false → ltL z x = false
  | [], [], [], _, _ => rfl
  | [], [], _ :: _, _, _ => rfl
  | [], _ :: _, [], _, h => by cases h
  | [], _ :: _, _ :: _, _, _ => rfl
  | _ :: _, [], _, h, _ => by cases h
  | _ :: _, _ :: _, [], _, h => by cases h
  | a :: x, b :: y, c :: z, h1, h2 => by
    unfold ltL at h1 h2 ⊢
    by_cases e1 : b = a
    · subst e1
      rw [if_pos rfl] at h1
      by_cases e2 : c = b
      · subst e2
        rw [if_pos rfl] at h2 ⊢
        exact ltL_tr x y z h1 h2
      · rw [if_neg e2] at h2 ⊢
        exact h2
    · rw [if_neg e1] at h1
      have h1 := of_decide_eq_false h1
      by_cases e2 : c = b
      · subst e2
        rw [if_neg e1]
        exact decide_eq_false h1
      · rw [if_neg e2] at h2
        have h2 := of_decide_eq_false h2
        rw [if_neg (by omega)]
        exact decide_eq_false (by omega)
theorem ltL_eq : ∀ x y : List Int, ltL x y = false → ltL y x = false → x = y
  | [], [], _, _ => rfl
  | [], _ :: _, h, _ => by cases h
  | _ :: _, [], _, h => by cases h
  | a :: x, b :: y, h1, h2 => by
    unfold ltL at h1 h2
    by_cases e : a = b
    · subst e
      rw [if_pos rfl] at h1 h2
      rw [ltL_eq x y h1 h2]
    · rw [if_neg e] at h1
      rw [if_neg fun z => e z.symm] at h2
      have := of_decide_eq_false h1
      have := of_decide_eq_false h2
      omega
theorem swo_ltL : SrtO.Swo ltL := ⟨ltL_asym, ltL_tr⟩
theorem pltA_ints : ∀ xs ys : List Int, pltA (D.pyA (xs.map D.int)) (D.pyA (ys.map D.int)) = ltL xs ys
  | [], [] => rfl
  | [], _ :: _ => rfl
  | _ :: _, [] => rfl
  | x :: xs, y :: ys => by
    have ih := pltA_ints xs ys
    have e1 : PyData.eqv (D.int x).py (D.int y).py = decide (x = y) := eqb_int x y
    show (if PyData.eqv (D.int x).py (D.int y).py = true then pltA (D.pyA (xs.map D.int)) (D.pyA (ys.map D.int)) else plt (D.int x).py (D.int y).py) = if x = y then ltL xs ys else decide (x < y)
    rw [e1, ih]
    by_cases e : x = y
    · rw [decide_eq_true e, if_pos rfl, if_pos e]
    · rw [decide_eq_false e, if_neg (by decide), if_neg e]
      simp only [D.py, plt]
theorem pcmA_ints : ∀ xs ys : List Int, pcmA (D.pyA (xs.map D.int)) (D.pyA (ys.map D.int)) = true
  | [], ys => by simp only [List.map_nil, D.pyA, pcmA]
  | _ :: _, [] => by simp only [List.map_nil, List.map_cons, D.pyA, pcmA]
  | x :: xs, y :: ys => by
    have ih := pcmA_ints xs ys
    simp only [List.map_cons, D.pyA, pcmA, D.py, pcm, ih, Bool.and_self]
def tupI (l : List Int) : D := .tup (l.map D.int)
theorem tupI_eqb (x y : List Int) : (tupI x).eqb (tupI y) = decide (x = y) := eqb_tupM eqb_int x y
theorem tupI_okn (n : Nat) (x : List Int) : (tupI x).okn (n + 1) := okn_tupI x
theorem plt_tupI (x y : List Int) : plt (tupI x).py (tupI y).py = ltL x y := by
  unfold tupI
  simp only [D.py, plt]
  exact pltA_ints x y
theorem pcm_tupI (x y : List Int) : pcm (tupI x).py (tupI y).py = true := by
  unfold tupI
  simp only [D.py, pcm]
  exact pcmA_ints x y
/-- (number, tuple of numbers) -/
def pairI (p : Int × List Int) : D := .tup [.int p.1, tupI p.2]
def ltP (p q : Int × List Int) : Bool := if p.1 = q.1 then ltL p.2 q.2 else decide (p.1 < q.1)
theorem swo_ltP : SrtO.Swo ltP := by
  refine ⟨fun x y h => ?_, fun x y z h1 h2 => ?_⟩
  · unfold ltP at h ⊢
    by_cases e : x.1 = y.1
    · rw [if_pos e] at h
      rw [if_pos e.symm]
      exact ltL_asym _ _ h
    · rw [if_neg e] at h
      rw [if_neg fun z => e z.symm]
      have := of_decide_eq_true h
      exact decide_eq_false (by omega)
  · unfold ltP at h1 h2 ⊢
    by_cases e1 : y.1 = x.1
    · rw [if_pos e1] at h1
      by_cases e2 : z.1 = y.1
      · rw [if_pos e2] at h2
        rw [if_pos (e2.trans e1)]
        exact ltL_tr _ _ _ h1 h2
      · rw [if_neg e2] at h2
        have := of_decide_eq_false h2
        rw [if_neg (by omega)]
        exact decide_eq_false (by omega)
    · rw [if_neg e1] at h1
      have := of_decide_eq_false h1
      by_cases e2 : z.1 = y.1
      · rw [if_neg (by omega)]
        exact decide_eq_false (by omega)
      · rw [if_neg e2] at h2
        have := of_decide_eq_false h2
        rw [if_neg (by omega)]
        exact decide_eq_false (by omega)
theorem eqb_two (a b c d : D) : (D.tup [a, b]).eqb (.tup [c, d]) = (a.eqb c && b.eqb d) := by
  rw [eqb_tup]
  show (a.eqb c && (b.eqb d && true)) = _
  rw [Bool.and_true]
theorem pairI_eqb (x y : Int × List Int) : (pairI x).eqb (pairI y) = decide (x = y) := by
  unfold pairI
  rw [eqb_two, eqb_int, tupI_eqb]
  obtain ⟨a, b⟩ := x
  obtain ⟨c, d⟩ := y
  rw [Bool.eq_iff_iff]
  simp
theorem pairI_okn (n : Nat) (x : Int × List Int) : (pairI x).okn (n + 2) := okn_tup fun d hd => by
  have hd : d = .int x.1 ∨ d = tupI x.2 := by simpa using hd
  rcases hd with rfl | rfl
  · exact okn_int _ _
  · exact tupI_okn n _
theorem plt_pairI (x y : Int × List Int) : plt (pairI x).py (pairI y).py = ltP x y := by
  have e1 : PyData.eqv (D.int x.1).py (D.int y.1).py = decide (x.1 = y.1) := eqb_int x.1 y.1
  have e2 : PyData.eqv (tupI x.2).py (tupI y.2).py = decide (x.2 = y.2) := tupI_eqb x.2 y.2
  unfold pairI
  rw [D.py, D.py]
  simp only [plt, D.pyA, pltA]
  rw [e1, e2]
  unfold ltP
  by_cases e : x.1 = y.1
  · rw [decide_eq_true e, if_pos rfl, if_pos e]
    by_cases e' : x.2 = y.2
    · rw [decide_eq_true e', if_pos rfl, e']
      cases q : ltL y.2 y.2 with
      | false => rfl
      | true => exact absurd (ltL_asym _ _ q) (by rw [q]; decide)
    · rw [decide_eq_false e', if_neg (by decide)]
      exact plt_tupI _ _
  · rw [decide_eq_false e, if_neg (by decide), if_neg e]
    simp only [D.py, plt]
theorem pcm_pairI (x y : Int × List Int) : pcm (pairI x).py (pairI y).py = true := by
  have := pcm_tupI x.2 y.2
  unfold pairI
  simp only [D.py, pcm, D.pyA, pcmA, this, Bool.and_self, Bool.and_true]
section
variable {X : Cx} {G : Cls}
theorem cf_sortedT (L : List (List Int)) (hne : 2 ≤ L.length → ∀ x ∈ L, x ≠ []) (hu : X.A.units + 70 < cLine) {Ψ : List D → Prop} (h : ∀ out : List (List Int), SrtO.Srtd ltL out → out.Perm L → Ψ (out.map tupI)) : CallF X G (.builtin "sorted") [.lst (L.map tupI)] Ψ :=
  cf_sortedN tupI ltL L (n := 1) swo_ltL tupI_eqb (tupI_okn 0) (by decide) (fun x => ⟨_, rfl⟩) (fun h2 x hx => by
    match x, hne h2 x hx with
    | i :: r, _ => exact ⟨i, r.map D.int, rfl⟩
    | [], z => exact absurd rfl z) (fun x _ y _ => pcm_tupI x y) (fun x _ y _ => plt_tupI x y) hu fun out s b => h out s b.perm
theorem cf_sortedP (L : List (Int × List Int)) (hu : X.A.units + 70 < cLine) {Ψ : List D → Prop} (h : ∀ out : List (Int × List Int), SrtO.Srtd ltP out → out.Perm L → Ψ (out.map pairI)) : CallF X G (.builtin "sorted") [.lst (L.map pairI)] Ψ :=
  cf_sortedN pairI ltP L (n := 2) swo_ltP pairI_eqb (pairI_okn 0) (by decide) (fun x => ⟨_, rfl⟩) (fun _ x _ => ⟨x.1, _, rfl⟩) (fun x _ y _ => pcm_pairI x y) (fun x _ y _ => plt_pairI x y) hu fun out s b => h out s b.perm
end
/-! ### unpacking a list, bit_length, list(range(n)), sorted(set(t)) -/
section
variable {X : Cx} {G : Cls} {ρ : En} {pos p p2 q apos : Pos} {e o a : Expr} {es : List Expr} {W : Nat → Prop} {ds : List D} {Ψ : En → Prop}
theorem glst {kk : Nat} (h : WGs X G W es ds ρ Ψ) (hc : X.calm = true := by rfl) (hn : (assignEach es X.env).length = ds.length := by rfl) (hst : (assignEach es X.env).findIdx? (·.1) = none := by rfl) : WG X G W (.Tuple es kk pos) (.lst ds) ρ Ψ := fun S H0 M0 σ H M v R r Q k => by
  refine mG_of (pg_unl hc (pgs_m X es) hn hst) ?_
  obtain ⟨a, xs, rfl, h1, g1⟩ := r.lst_
  exact ⟨a, xs, rfl, h1.sq, g1.length, h S H0 M0 σ H M xs R g1 Q k⟩
theorem ebits {Φ : D → En → Prop} (h : WE X G o ρ fun x ρ1 => ∃ i, x = .int i ∧ Φ (.int (Builtin.Int.intBits i : Nat)) ρ1) (hbase : attributeBase o "bit_length" X.env (eval o X.env) = eval o X.env := by rfl) (hline : (apos.endLine == pos.line) = true := by rfl) :
    WE X G (.Call (.Attribute o "bit_length" apos) [] [] pos) ρ Φ := fun S H0 M0 σ H M R Q k =>
  mE_of (pe_bits (pe_m X o) hbase hline) (h S H0 M0 σ H M R _ fun v H1 M1 d ρ1 p1 R1 r1 ⟨i, ei, w⟩ => by
    subst ei
    exact ⟨i, r1.int_, k _ H1 M1 _ ρ1 p1 R1 (.int _) w⟩)
theorem rgV_ints (n : Int) : rgV 0 n = ((List.range n.toNat).map fun i : Nat => (i : Int)).map V.int := by
  unfold rgV
  rw [Int.sub_zero, List.map_map]
  apply List.map_congr_left
  intro i _
  show V.int (0 + (i : Nat)) = V.int (i : Nat)
  rw [Int.zero_add]
theorem fListRg {Φ : List D → En → Prop} (h : WE X G a ρ fun x ρ1 => ∃ n : Int, x = .int n ∧ 0 ≤ n ∧ n ≤ 16777216 ∧ Φ (((List.range n.toNat).map fun i : Nat => (i : Int)).map D.int) ρ1) (hm : X.mg "list" = none := by assumption) (hmr : X.mg "range" = none := by assumption) (hc : X.calm = true := by rfl) (hg : Gl X "list" := by rfl) (hgr : Gl X "range" := by rfl)
    (na : starEach [a] X.env = (false, eval a X.env) :: starEach [] X.env := by rfl) (na2 : starEach [.Call (.Name "range" p2) [a] [] q] X.env = (false, eval (.Call (.Name "range" p2) [a] [] q) X.env) :: starEach [] X.env := by rfl) :
    WF X G (.Call (.Name "list" p) [.Call (.Name "range" p2) [a] [] q] [] pos) ρ Φ := fun S H0 M0 σ H M R Q k =>
  mE_of (pe_listRg hc hg hm (prg_1 hgr hmr (pe_m X a) na) na2) (h S H0 M0 σ H M R _ fun v H1 M1 d ρ1 p1 R1 r1 ⟨n, ei, n0, n1, w⟩ => by
    subst ei
    refine ⟨n, r1.int_, RgOk.of_le (Int.le_refl _) n1 (by decide) n0, fun l hl => ?_⟩
    rw [rgV_ints]
    exact k l _ H1 M1 _ ρ1 p1 R1 hl (rpA_of_ints _) w)
def rSetTI (K : PySem.W.Frag) (w : World) : List V → Hp → VK → Prop := fun vs H Q => ∃ (a : Addr) (ns : List Int), vs = [.ref a] ∧ SqT K H a (ns.map V.int) ∧ ns.length + 1 < scanBound ∧
  ∀ (p : Addr) (c : Nat), c ≤ ns.length → H p = none → Q (.ref p) (upd H p (SetO w p (fun j => decide (j ∈ ns)) c))
theorem cr_setTI (hc : X.calm = true) : CallR X (.type "set") (rSetTI X.K X.w) := by
  intro pins s σ H vs us Q I r h
  obtain ⟨a, ns, rfl, hq, hl, q⟩ := h
  obtain ⟨u, rfl, ru⟩ := vals1 r
  obtain rfl : u = Value.ref a := ru
  obtain ⟨its, rv, pl, hz⟩ := I.tuple hq
  refine call_set_tupI ns (I.ok.hd hc) pl (by simpa using intsAre_of rv) hl fun h' tk c hS hc' hk => ?_
  exact ⟨.ref _, upd H s.heap.objs.size (SetO X.w s.heap.objs.size (fun j => decide (j ∈ ns)) c), I.laid (t' := tk) hk (Nat.le_refl _) (setO_new hS), rfl, q _ c hc' (I.hok.fresh (Nat.le_refl _))⟩
theorem fSortSet {Φ : List D → En → Prop} (h : WE X G e ρ fun d ρ1 => ∃ ns : List Int, d = tupI ns ∧ ns.length < 64 ∧ ∀ out : List Int, out.Pairwise (· < ·) → (∀ k, k ∈ out ↔ k ∈ ns) → Φ (out.map D.int) ρ1) (hm : X.mg "sorted" = none := by assumption) (hms : X.mg "set" = none := by assumption) (hc : X.calm = true := by rfl) (hg : Gl X "sorted" := by rfl) (hgs : Gl X "set" := by rfl)
    (na : starEach [e] X.env = (false, eval e X.env) :: starEach [] X.env := by rfl) (na2 : starEach [.Call (.Name "set" p2) [e] [] q] X.env = (false, eval (.Call (.Name "set" p2) [e] [] q) X.env) :: starEach [] X.env := by rfl) 
    (hpl : (backTo q (starEach [] X.env)).any (·.1) = false := by rfl) (hpl2 : (backTo pos (starEach [] X.env)).any (·.1) = false := by rfl) :
    WF X G (.Call (.Name "sorted" p) [.Call (.Name "set" p2) [e] [] q] [] pos) ρ Φ := fun S H0 M0 σ H M R Q k => by
  refine mE_of (pe_callB (cr_sortedSet hc) hg hm bt_sorted (pa_cons (pe_callTy (cr_setTI hc) hgs hms bt_set (pa_cons (pe_m X e) pa_nil na) (by decide) (by decide) na hpl) pa_nil na2) (by decide) (by decide) na2 hpl2) ?_
  refine h S H0 M0 σ H M R _ fun v H1 M1 d ρ1 p1 R1 r1 ⟨ns, ed, hl, w⟩ => ?_
  subst ed
  obtain ⟨a, xs, rfl, h1, g1⟩ := Rp.tup_ r1
  rw [rpA_ints g1] at h1
  refine ⟨a, ns, rfl, h1.sq, by show _ < 4096; omega, fun t c hc' ht => ?_⟩
  refine ⟨t, _, c, rfl, upd_same, by omega, fun out l ha hmem hlen hl2 => ?_⟩
  have sm : Same H1 (upd H1 t (SetO X.w t (fun j => decide (j ∈ ns)) c)) := same_upd ht
  exact k l _ _ M1 _ ρ1 (p1.trans (pre_of_same sm)) (R1.same sm) hl2 (rpA_of_ints _) (w out ha fun z => by rw [hmem]; simp)
end
end DL

namespace DL
open PySem PySem.Spec PyProof.Rows L2
/-! ### own lists, read for a while -/
def D.sca : D → Bool
  | .non => true
  | .bl _ => true
  | .int _ => true
  | .str _ => true
  | _ => false
/-- nothing of the source in it -/
def SrcFree (d : D) : Prop := ∀ (K : PySem.W.Frag) (G : Cls) (S : Option Addr) (M : Mu) (H : Hp) (v : V), Rp K G S M H v d → Rp K G none M H v d
theorem sf_non : SrcFree .non := fun _ _ _ _ _ _ r => by rw [r.non_]; exact .non
theorem sf_bl (b : Bool) : SrcFree (.bl b) := fun _ _ _ _ _ _ r => by rw [r.bl_]; exact .bl b
theorem sf_int (i : Int) : SrcFree (.int i) := fun _ _ _ _ _ _ r => by rw [r.int_]; exact .int i
theorem sf_all {K : PySem.W.Frag} {G : Cls} {S : Option Addr} {M : Mu} {H : Hp} : ∀ {ds : List D} {vs : List V}, (∀ d ∈ ds, SrcFree d) → RpA K G S M H vs ds → RpA K G none M H vs ds
  | [], _, _, r => by cases r; exact .nil
  | d :: ds, _, h, r => by
    cases r with
    | cons r1 r2 => exact .cons (h d (by simp) _ _ _ _ _ _ r1) (sf_all (fun e he => h e (by simp [he])) r2)
theorem sf_tup {ds : List D} (h : ∀ d ∈ ds, SrcFree d) : SrcFree (.tup ds) := fun _ _ _ _ _ _ r => by
  cases r with
  | tup a b => exact .tup a (sf_all h b)
theorem sf_lst {ds : List D} (h : ∀ d ∈ ds, SrcFree d) : SrcFree (.lst ds) := fun _ _ _ _ _ _ r => by
  cases r with
  | lst a b => exact .lst a (sf_all h b)
theorem sf_tupI (l : List Int) : SrcFree (tupI l) := sf_tup fun d hd => by obtain ⟨i, _, rfl⟩ := List.mem_map.mp hd; exact sf_int i
/-- ρs: what ρ lends -/
inductive Lend : En → En → Prop where
  | nil : Lend [] []
  | skip {x : Option EV} {r rs : En} : Lend r rs → Lend (x :: r) (none :: rs)
  | dat {d : D} {r rs : En} : SrcFree d → Lend r rs → Lend (some (.dat d) :: r) (some (.dat d) :: rs)
  | own {ds : List D} {r rs : En} : (∀ d ∈ ds, SrcFree d) → Lend r rs → Lend (some (.own ds) :: r) (some (.dat (.lst ds)) :: rs)
theorem Lend.len {r rs : En} (h : Lend r rs) : rs.length = r.length := by
  induction h with
  | nil => rfl
  | skip _ ih => simp [ih]
  | dat _ _ ih => simp [ih]
  | own _ _ ih => simp [ih]
theorem Lend.at {r rs : En} (h : Lend r rs) : ∀ {i : Nat} {y : EV}, rs[i]? = some (some y) → (∃ d, y = .dat d ∧ SrcFree d ∧ r[i]? = some (some (.dat d))) ∨ ∃ ds, y = .dat (.lst ds) ∧ (∀ d ∈ ds, SrcFree d) ∧ r[i]? = some (some (.own ds)) := by
  induction h with
  | nil => intro i y e; simp at e
  | skip _ ih =>
    intro i y e
    match i with
    | 0 => cases e
    | i + 1 => exact ih (i := i) e
  | @dat d _ _ hd _ ih =>
    intro i y e
    match i with
    | 0 => cases e; exact .inl ⟨d, rfl, hd, rfl⟩
    | i + 1 => exact ih (i := i) e
  | @own ds _ _ hd _ ih =>
    intro i y e
    match i with
    | 0 => cases e; exact .inr ⟨ds, rfl, hd, rfl⟩
    | i + 1 => exact ih (i := i) e
section
variable {K : PySem.W.Frag} {G : Cls} {S : Option Addr} {M0 M : Mu} {H0 H : Hp} {ρ ρs : En} {σ : L2.St}
theorem Rep.lend (R : Rep K G S H0 M0 ρ σ H M) (h : Lend ρ ρs) : Rep K G none H (fun _ => False) ρs σ H (fun _ => False) where
  len := by rw [h.len]; exact R.len
  dat i d e := by
    have p : Pre M H (fun _ => False) H := fun _ _ e _ => ⟨e, fun z => z⟩
    rcases h.at e with ⟨d', e1, f, e2⟩ | ⟨ds, e1, f, e2⟩
    · cases e1
      obtain ⟨v, h1, h2⟩ := R.dat i d e2
      exact ⟨v, h1, (f _ _ _ _ _ _ h2).pre p⟩
    · cases e1
      obtain ⟨q, vs, h1, h2, h3, _⟩ := R.own i ds e2
      exact ⟨.ref q, h1, .lst ⟨fun z => z, h2⟩ ((sf_all f h3).pre p)⟩
  ow i k ds e := by
    rcases h.at e with ⟨d', e1, _⟩ | ⟨ds, e1, _⟩ <;> cases e1
  sep i j k l ds es p e _ := by
    rcases h.at e with ⟨d', e1, _⟩ | ⟨ds, e1, _⟩ <;> cases e1
  src a e := by cases e
  mt _ z := z.elim
  mt0 _ z := z.elim
  m0 _ z := z
  fr _ _ e _ := e
theorem Rep.lent {H2 : Hp} (R : Rep K G S H0 M0 ρ σ H M) (fr : ∀ b o, H b = some o → H2 b = some o) : Rep K G S H0 M0 ρ σ H2 M ∧ Pre M H M H2 := by
  have p : Pre M H M H2 := fun b o e n => ⟨fr b o e, n⟩
  have old : ∀ b, H b ≠ none → H2 b = H b := fun b h => by
    cases e : H b with
    | none => exact absurd e h
    | some o => exact fr b o e
  refine ⟨⟨R.len, fun i d e => ?_, fun i kd ds e => ?_, R.sep, fun a e => ?_, fun b hb => ?_, R.mt0, R.m0, fun b o e n => fr b o (R.fr b o e n)⟩, p⟩
  · obtain ⟨v, h1, h2⟩ := R.dat i d e
    exact ⟨v, h1, h2.pre p⟩
  · obtain ⟨q, vs, h1, h2, h3, h4⟩ := R.ow i kd ds e
    exact ⟨q, vs, h1, fr q _ h2, h3.pre p, h4⟩
  · obtain ⟨h1, h2⟩ := R.src a e
    exact ⟨h1.pre p (old a (R.mt a h2)), h2⟩
  · rw [old b (R.mt b hb)]
    exact R.mt b hb
end
section
variable {X : Cx} {G : Cls} {ρ : En} {e : Expr}
/-- e is evaluated while the own lists stand still; what it tells is a scalar -/
theorem elend (ρs : En) (hl : Lend ρ ρs) {Φ : D → En → Prop} (h : WE X G e ρs fun d _ => d.sca = true ∧ Φ d ρ) : WE X G e ρ Φ := fun S H0 M0 σ H M R Q k =>
  h none H (fun _ => False) σ H (fun _ => False) (R.lend hl) Q fun v H2 M2 d ρ' p2 R2 r2 w => by
    obtain ⟨hd, w⟩ := w
    obtain ⟨R3, p3⟩ := R.lent (H2 := H2) fun b o eb => R2.fr b o eb (by simp)
    refine k v H2 M d ρ p3 R3 ?_ w
    cases d with
    | non => rw [r2.non_]; exact .non
    | bl b => rw [r2.bl_]; exact .bl b
    | int i => rw [r2.int_]; exact .int i
    | str x =>
      cases r2 with
      | str => exact .str x
    | _ => cases hd
/-- a truth test, so -/
theorem tlend (ρs : En) (hl : Lend ρ ρs) {Φ : Bool → En → Prop} (h : WT X G e ρs fun d _ => Φ d ρ) : WT X G e ρ Φ := fun S H0 M0 σ H M R Q k =>
  h none H (fun _ => False) σ H (fun _ => False) (R.lend hl) Q fun v H2 M2 ρ' p2 R2 w => by
    obtain ⟨R3, p3⟩ := R.lent (H2 := H2) fun b o eb => R2.fr b o eb (by simp)
    exact k v H2 M ρ p3 R3 w
end
end DL

namespace DL
open PySem PySem.Spec PyProof.Rows L2
/-! ### own dicts, the keys ints -/
def dicE (m : List (Int × D)) : EV := .ow (.K (m.map fun p => .inl p.1)) (m.map (·.2))
def lkI (m : List (Int × D)) (k : Int) : Option D := (m.find? fun p => decide (p.1 = k)).map (·.2)
def putI (m : List (Int × D)) (k : Int) (d : D) : List (Int × D) := if (m.any fun p => decide (p.1 = k)) = true then m.map (fun p => if p.1 = k then (p.1, d) else p) else m ++ [(k, d)]
def kvsI (m : List (Int × D)) (vs : List V) : List (Key × V) := (m.map fun p => (Sum.inl p.1 : Key)).zip vs
theorem kvs_get {K : PySem.W.Frag} {G : Cls} {S : Option Addr} {M : Mu} {H : Hp} (k : Int) : ∀ {m : List (Int × D)} {vs : List V}, RpA K G S M H vs (m.map (·.2)) →
    (lkI m k = none ∧ valV (kvsI m vs) (.inl k) = none) ∨ ∃ d v, lkI m k = some d ∧ valV (kvsI m vs) (.inl k) = some v ∧ Rp K G S M H v d
  | [], _, r => by cases r; exact .inl ⟨rfl, rfl⟩
  | p :: m, _, r => by
    cases r with
    | @cons v vs d ds r1 r2 =>
      by_cases e : p.1 = k
      · refine .inr ⟨p.2, v, by simp [lkI, e], ?_, r1⟩
        exact valV_pos (by show (Sum.inl p.1 : Key) = .inl k; rw [e])
      · have e1 : lkI (p :: m) k = lkI m k := by simp [lkI, e]
        have e2 : valV (kvsI (p :: m) (v :: vs)) (.inl k) = valV (kvsI m vs) (.inl k) := valV_neg (by show ¬ (Sum.inl p.1 : Key) = .inl k; exact fun z => e (Sum.inl.inj z))
        rw [e1, e2]
        exact kvs_get k r2
theorem kvs_any {m : List (Int × D)} {vs : List V} (hl : vs.length = m.length) (k : Int) : ((kvsI m vs).any fun kv => decide (kv.1 = (Sum.inl k : Key))) = m.any fun p => decide (p.1 = k) := by
  induction m generalizing vs with
  | nil => rfl
  | cons p m ih =>
    match vs, hl with
    | v :: vs, hl =>
      have := ih (vs := vs) (by simpa using hl)
      show (decide ((Sum.inl p.1 : Key) = .inl k) || (kvsI m vs).any _) = (decide (p.1 = k) || m.any _)
      rw [this]
      congr 1
      by_cases e : p.1 = k
      · rw [decide_eq_true e, e, decide_eq_true rfl]
      · rw [decide_eq_false e, decide_eq_false fun z => e (Sum.inl.inj z)]
theorem kvs_len {m : List (Int × D)} {vs : List V} (hl : vs.length = m.length) : (kvsI m vs).length = m.length := by
  unfold kvsI
  rw [List.length_zip, List.length_map, hl, Nat.min_self]
theorem kvs_put {K : PySem.W.Frag} {G : Cls} {S : Option Addr} {M : Mu} {H : Hp} {m : List (Int × D)} {vs : List V} {k : Int} {v : V} {d : D} (r : RpA K G S M H vs (m.map (·.2))) (rv : Rp K G S M H v d) :
    ∃ ws, putK (kvsI m vs) (.inl k) v = kvsI (putI m k d) ws ∧ RpA K G S M H ws ((putI m k d).map (·.2)) := by
  have hl : vs.length = m.length := by rw [r.length, List.length_map]
  unfold putK putI
  rw [kvs_any hl]
  by_cases q : (m.any fun p => decide (p.1 = k)) = true
  · rw [if_pos q, if_pos q]
    clear q hl
    suffices h : ∀ {m : List (Int × D)} {vs : List V}, RpA K G S M H vs (m.map (·.2)) → ∃ ws, (kvsI m vs).map (fun kv => if kv.1 = (Sum.inl k : Key) then (kv.1, v) else kv) = kvsI (m.map fun p => if p.1 = k then (p.1, d) else p) ws ∧ RpA K G S M H ws ((m.map fun p => if p.1 = k then (p.1, d) else p).map (·.2)) from h r
    intro m
    induction m with
    | nil => intro vs r; cases r; exact ⟨[], rfl, .nil⟩
    | cons p m ih =>
      intro vs r
      cases r with
      | @cons u us _ _ r1 r2 =>
        obtain ⟨ws, e1, e2⟩ := ih r2
        by_cases e : p.1 = k
        · refine ⟨v :: ws, ?_, ?_⟩
          · show (if (Sum.inl p.1 : Key) = .inl k then ((Sum.inl p.1 : Key), v) else (Sum.inl p.1, u)) :: (kvsI m us).map _ = _
            rw [e1, if_pos (by rw [e]), List.map_cons, if_pos e]
            rfl
          · rw [List.map_cons, List.map_cons, if_pos e]
            exact .cons rv e2
        · refine ⟨u :: ws, ?_, ?_⟩
          · show (if (Sum.inl p.1 : Key) = .inl k then ((Sum.inl p.1 : Key), v) else (Sum.inl p.1, u)) :: (kvsI m us).map _ = _
            rw [e1, if_neg (fun z => e (Sum.inl.inj z)), List.map_cons, if_neg e]
            rfl
          · rw [List.map_cons, List.map_cons, if_neg e]
            exact .cons r1 e2
  · rw [if_neg q, if_neg q]
    refine ⟨vs ++ [v], ?_, by rw [List.map_append]; exact r.append (.one rv)⟩
    unfold kvsI
    rw [List.map_append, List.zip_append (by rw [List.length_map, hl])]
    rfl
section
variable {X : Cx} {G : Cls} {ρ : En} {pos p px pos' : Pos} {e b : Expr} {es : List Expr} {x : Str}
theorem dic_var {i : Nat} {m : List (Int × D)} {K S H0 M0 σ H M} (R : Rep K G S H0 M0 ρ σ H M) (ho : ρ[i]? = some (some (dicE m))) : ∃ q vs, σ[i]? = some (some (.ref q)) ∧ H q = some (.dK (kvsI m vs)) ∧ RpA K G S M H vs (m.map (·.2)) := by
  obtain ⟨q, vs, h1, h2, h3, _⟩ := R.ow i _ _ ho
  exact ⟨q, vs, h1, h2, h3⟩
/-- k not in d, as a test -/
theorem tnotinD (i : Nat) {Φ : Bool → En → Prop} (h : WE X G e ρ fun y ρ1 => ∃ k m, y = .int k ∧ ρ1[i]? = some (some (dicE m)) ∧ Φ (!(lkI m k).isSome) ρ1) (hu : X.A.units + 1 < cLine := by assumption) (hN : X.N[i]? = some x := by rfl) (hv : Vis X.env.scope x := by first | exact Or.inl rfl | exact Or.inr (Or.inl rfl) | exact Or.inr (Or.inr rfl))
    (hd : (x == ("__debug__" : Str)) = false := by decide) (hcd : (x == ("__classdict__" : Str)) = false := by decide) (hm : behindInMarks .NotIn (.Name x px) = false := by first | exact nobehind _ (by decide) (by decide) | rfl) : WT X G (.Compare e [.NotIn] [.Name x px] pos) ρ Φ := fun S H0 M0 σ H M R Q k => by
  refine mT_of (pt_cmp (pc_dnotin hu (pe_m X e) (pe_var hN hv hd hcd)) hm) ?_
  refine h S H0 M0 σ H M R _ fun v H1 M1 d1 ρ1 p1 R1 r1 w1 => ?_
  obtain ⟨kk, m, rfl, e1, w⟩ := w1
  obtain rfl := r1.int_
  obtain ⟨q, vs, g1, g2, g3⟩ := dic_var R1 e1
  have hg : DGet H1 q (kV (.inl kk)) (valV (kvsI m vs) (.inl kk)) := DGet.k g2
  refine ⟨.ref q, g1, q, _, rfl, hg, _, rfl, ?_⟩
  have es : (valV (kvsI m vs) (.inl kk)).isSome = (lkI m kk).isSome := by
    rcases kvs_get kk g3 with ⟨a, b⟩ | ⟨d, v, a, b, _⟩ <;> rw [a, b] <;> rfl
  rw [es]
  exact k _ H1 M1 ρ1 p1 R1 w
/-- d[k] -/
theorem egetD (i : Nat) {Φ : D → En → Prop} (h : WE X G e ρ fun y ρ1 => ∃ k m d, y = .int k ∧ ρ1[i]? = some (some (dicE m)) ∧ lkI m k = some d ∧ Φ d ρ1) (hu : X.A.units + 1 < cLine := by assumption) (hN : X.N[i]? = some x := by rfl) (hv : Vis X.env.scope x := by first | exact Or.inl rfl | exact Or.inr (Or.inl rfl) | exact Or.inr (Or.inr rfl))
    (hd : (x == ("__debug__" : Str)) = false := by decide) (hcd : (x == ("__classdict__" : Str)) = false := by decide) (ho : ∃ m0, ρ[i]? = some (some (dicE m0)) := by exact ⟨_, rfl⟩) (hs : NoSl e := by exact fun _ _ => rfl) : WE X G (.Subscript (.Name x px) e pos) ρ Φ := fun S H0 M0 σ H M R Q k => by
  obtain ⟨m0, ho⟩ := ho
  obtain ⟨q0, vs0, f1, f2, f3⟩ := dic_var R ho
  refine mE_of (pe_dget hu (pe_var hN hv hd hcd) (pe_m X e) hs) ?_
  refine ⟨.ref q0, f1, h S H0 M0 σ H M R _ fun v H1 M1 d1 ρ1 p1 R1 r1 w1 => ?_⟩
  obtain ⟨kk, m, d, rfl, e1, hl, w⟩ := w1
  obtain rfl := r1.int_
  obtain ⟨q, vs, g1, g2, g3⟩ := dic_var R1 e1
  rw [f1] at g1
  cases g1
  rcases kvs_get kk g3 with ⟨a, b⟩ | ⟨d', v, a, b, c⟩
  · rw [hl] at a; cases a
  · rw [hl] at a
    cases a
    have hg : DGet H1 q0 (kV (.inl kk)) (valV (kvsI m vs) (.inl kk)) := DGet.k g2
    rw [b] at hg
    exact ⟨q0, v, rfl, hg, k v H1 M1 d ρ1 p1 R1 c w⟩
/-- d[k] = e -/
theorem sputD (i : Nat) {P : Po} (h : WE X G e ρ fun d ρ1 => (∃ m0, ρ1[i]? = some (some (dicE m0))) ∧ WE X G b ρ1 fun y ρ2 => ∃ k m, y = .int k ∧ ρ2[i]? = some (some (dicE m)) ∧ m.length < sizeLine ∧ P.nx (ρ2.set i (some (dicE (putI m k d))))) (hu : X.A.units + 1 < cLine := by assumption) (hN : X.N[i]? = some x := by rfl) (hv : Vis X.env.scope x := by first | exact Or.inl rfl | exact Or.inr (Or.inl rfl) | exact Or.inr (Or.inr rfl))
    (hd : (x == ("__debug__" : Str)) = false := by decide) (hcd : (x == ("__classdict__" : Str)) = false := by decide) (hs : swapsWith e (some (.Subscript (.Name x px) b pos')) pos.line X.env = pure false := by rfl) : WS X G (.Assign [.Subscript (.Name x px) b pos'] e pos) ρ P := fun S H0 M0 σ H M R E k => by
  refine mS_of (ps_dput hu (pe_var hN hv hd hcd) (pe_m X b) (pe_m X e) hs) ?_
  refine h S H0 M0 σ H M R _ fun v H1 M1 d1 ρ1 p1 R1 r1 w1 => ?_
  obtain ⟨⟨m0, e0⟩, w1⟩ := w1
  obtain ⟨q0, vs0, f1, f2, f3⟩ := dic_var R1 e0
  refine ⟨.ref q0, f1, w1 S H0 M0 σ H1 M1 R1 _ fun y H2 M2 d2 ρ2 p2 R2 r2 w2 => ?_⟩
  obtain ⟨kk, m, rfl, e1, hl, w⟩ := w2
  obtain rfl := r2.int_
  obtain ⟨q, vs, g1, g2, g3⟩ := dic_var R2 e1
  rw [f1] at g1
  cases g1
  have hvl : vs.length = m.length := by rw [g3.length, List.length_map]
  obtain ⟨ws, u1, u2⟩ := kvs_put (k := kk) (v := v) (d := d1) g3 (r1.pre p2)
  refine ⟨q0, upd H2 q0 (.dK (putK (kvsI m vs) (.inl kk) v)), rfl, .inl ⟨_, .inl kk, g2, rfl, by rw [kvs_len hvl]; exact hl, rfl⟩, ?_⟩
  rw [u1]
  obtain ⟨R3, p3⟩ := R2.writeK (k1 := .K ((putI m kk d1).map fun p => .inl p.1)) e1 f1 u2
  exact k.nx _ _ M2 _ ((p1.trans p2).trans p3) R3 w
/-- xs[k] = e, xs an own list -/
theorem sputO (i : Nat) {P : Po} (h : WE X G e ρ fun d ρ1 => (∃ ds0, ρ1[i]? = some (some (.own ds0))) ∧ WE X G b ρ1 fun y ρ2 => ∃ (j : Nat) (ds : List D), y = .int j ∧ ρ2[i]? = some (some (.own ds)) ∧ j < ds.length ∧ P.nx (ρ2.set i (some (.own (ds.set j d))))) (hN : X.N[i]? = some x := by rfl) (hv : Vis X.env.scope x := by first | exact Or.inl rfl | exact Or.inr (Or.inl rfl) | exact Or.inr (Or.inr rfl))
    (hd : (x == ("__debug__" : Str)) = false := by decide) (hcd : (x == ("__classdict__" : Str)) = false := by decide) (hs : swapsWithSole [.Subscript (.Name x px) b pos'] e pos.line X.env = pure false := by rfl) (hw : swappedStores [.Subscript (.Name x px) b pos'] e X.env = pure none := by rfl) (h1 : (assignEach [.Subscript (.Name x px) b pos'] X.env).map (·.2) = [assign (.Subscript (.Name x px) b pos') X.env] := by rfl) (ha : ∀ v, assign (.Subscript (.Name x px) b pos') X.env v = (do
      let ov ← holding [v] (eval (.Name x px) X.env)
      let iv ← holding [v, ov] (eval b X.env)
      standAt pos'
      holding [v, ov, iv] (setItem ov iv v)
      release [v, ov, iv] []) := by intro _; rfl) : WS X G (.Assign [.Subscript (.Name x px) b pos'] e pos) ρ P := fun S H0 M0 σ H M R E k => by
  refine mS_of (ps_asg (pe_m X e) (pg_sub (pe_var hN hv hd hcd) (pe_m X b) set_list ha) hs hw h1) ?_
  refine h S H0 M0 σ H M R _ fun v H1 M1 d1 ρ1 p1 R1 r1 w1 => ?_
  obtain ⟨⟨ds0, e0⟩, w1⟩ := w1
  obtain ⟨q0, vs0, f1, f2, f3, _⟩ := R1.own i ds0 e0
  refine ⟨.ref q0, f1, w1 S H0 M0 σ H1 M1 R1 _ fun y H2 M2 d2 ρ2 p2 R2 r2 w2 => ?_⟩
  obtain ⟨j, ds, rfl, e1, hl, w⟩ := w2
  obtain rfl := r2.int_
  obtain ⟨q, vs, g1, g2, g3, _⟩ := R2.own i ds e1
  rw [f1] at g1
  cases g1
  have hvl : j < vs.length := by rw [g3.length]; exact hl
  have hset : ∀ {vs : List V} {ds : List D} (j : Nat), RpA X.K G S M2 H2 vs ds → RpA X.K G S M2 H2 (vs.set j v) (ds.set j d1) := by
    intro vs ds j r
    induction vs generalizing ds j with
    | nil => cases r; exact .nil
    | cons a vs ih =>
      cases r with
      | cons ra rr =>
        cases j with
        | zero => exact .cons (r1.pre p2) rr
        | succ j => exact .cons ra (ih j rr)
  obtain ⟨R3, p3⟩ := R2.write e1 f1 (hset j g3)
  refine ⟨q0, vs, j, j, rfl, rfl, g2, ?_, ?_⟩
  · unfold ixN
    simp [hvl]
  · exact k.nx _ _ M2 _ ((p1.trans p2).trans p3) R3 w
end
end DL

namespace DL
open PySem PySem.Spec PyProof.Rows L2
/-! ### {e for x in xs if ..}, ints -/
abbrev eSet (w : World) : Obj := { cls := .type "set", dict := none, data := .set #[] 0 (.fresh 0 0 (!w.params.followText "set-order")) }
abbrev S0 (w : World) (a : Addr) : HO := SetO w a (fun _ => false) 0
/-- one more int -/
def addS (w : World) (a : Addr) (c : Int) (S : Int → Bool) (n : Nat) : HO := SetO w a (fun j => S j || decide (j = c)) (if S c = true then n else n + 1)
def tScI (w : World) (wi : TI) (g : TG) (tt : TT) (te : TE) (vs : List Nat) : TE := fun σ H Q => wi σ H fun J HA => ∀ a, HA a = none → ∃ B : Nat → Nat → Hp → Prop, (∃ m, B 0 m (upd HA a (S0 w a))) ∧ ∀ i m HB, B i m HB →
  (J.stop i HB ∧ Q (.ref a) HB) ∨ (J.go i HB ∧ ∃ N : Hp → Prop, (∀ HC, N HC → ∃ l, l < m ∧ B (i + 1) l HC) ∧ ∀ x HC, J.yld i HB x HC → g x (wipe σ vs) HC fun σ1 HD => wipe σ1 vs = wipe σ vs ∧ tt σ1 HD fun b HE =>
    if b = true then te σ1 HE fun y HF => ∃ (c : Int) (S : Int → Bool) (n : Nat), y = .int c ∧ HF a = some (SetO w a S n) ∧ n + 1 < scanBound ∧ N (upd HF a (addS w a c S n)) else N HE)
section
variable {X : Cx}
theorem scI_run {elt tg iter : Expr} {ifs : List Expr} {scope : Scope} {own : List (Str × Nat)} {pos : Pos} {wi : TI} {g : TG} {tt : TT} {te : TE} (hc : X.calm = true) (hN : X.N.Nodup) (hi : PI X tg iter wi) (ok : BlkOk X.N X.env.scope scope own)
    (kg : ∀ (t : Shared) (J : Hp) (C : Addr) (l : List (Str × Addr)) (fp : List Addr), PG (X.blk t J scope (compEnvC scope l C X.env) fp) tg g) (kt : ∀ (t : Shared) (J : Hp) (C : Addr) (l : List (Str × Addr)) (fp : List Addr), PTs (X.blk t J scope (compEnvC scope l C X.env) fp) ifs tt)
    (ke : ∀ (t : Shared) (J : Hp) (C : Addr) (l : List (Str × Addr)) (fp : List Addr), PE (X.blk t J scope (compEnvC scope l C X.env) fp) elt te) (fs : ∀ x, foldedSetIterable iter X.env x = pure x) : PE X (.SetComp elt [⟨tg, iter, ifs, 0⟩] scope pos) (tScI X.w wi g tt te (own.map (·.2))) := by
  refine ⟨fun pins s σ H Q I ask => ?_⟩
  rw [PpSet.eval_SetComp]
  have free : ∀ y ∈ scope.names, y.2 = .free → ∃ c, X.env.cells.lookup y.1 = some c := fun y m e => (ok.free y m e).elim (fun q => I.ok.has _ (.inl q)) fun q => I.ok.has _ (.inr q)
  refine wpAny_comprehension_free (use := none) rfl fs (closure_ok free) ok.kind (fun y m e => by rw [ok.uniq y m, e]) (thn (hi.run pins s σ H _ I ask) fun v0 sA a1 => thn a1 fun v1 sB a2 => ?_)
  obtain ⟨it, fp, tn, J, HA, rfl, IA, T, tn0, fpA, ask⟩ := a2
  refine PpSet.newSet_ok (newEnv_comp ?_)
  have fresh : HA sB.heap.objs.size = none := IA.hok.fresh (Nat.le_refl _)
  obtain ⟨B, ⟨m0, b0⟩, turn⟩ := ask sB.heap.objs.size fresh
  revert fresh b0 turn
  generalize ea : sB.heap.objs.size = a
  intro fresh turn b0
  generalize eC : ({ sB with heap := sB.heap.push (eSet X.w) } : Shared) = sC
  have heC : sC.heap = sB.heap.push (eSet X.w) := by rw [← eC]
  have IC : Inv X pins σ (upd HA a (S0 X.w a)) sC := by
    rw [← eC]
    refine IA.laid (t' := sB.toks) (fun b o e => Heap.get?_push_of_some _ e) (Nat.le_of_eq ea) ?_
    have z : SetR X.w (sB.heap.push (eSet X.w)) sB.heap.objs.size (fun _ => false) 0 := setR_fresh X.w
    rw [ea] at z
    exact setO_new z
  have low : ∀ b ∈ fp, b < sB.heap.objs.size := fun b m => (T.obj _ _ tn0 b m).elim fun o e => Heap.lt_size e.1
  have fpC : ∀ b ∈ fp, FpOk X pins (upd HA a (S0 X.w a)) b ∧ b < sC.heap.objs.size := fun b m => by
    refine ⟨⟨?_, (fpA b m).2⟩, ?_⟩
    · rw [upd_ne (Nat.ne_of_lt (ea ▸ low b m))]
      exact (fpA b m).1
    · rw [heC, Heap.size_push]
      exact Nat.lt_succ_of_lt (low b m)
  have tnC : tn 0 sC.heap := T.keep _ _ _ tn0 fun b _ o e => heC ▸ Heap.get?_push_of_some _ e
  have ID := block_start IC ok hN fpC
  have rg := kg sC (upd HA a (S0 X.w a)) sC.heap.objs.size (cellsFrom (sC.heap.objs.size + 1) scope.names (cloFrom X.env.cells scope.names [])) fp
  have rt := kt sC (upd HA a (S0 X.w a)) sC.heap.objs.size (cellsFrom (sC.heap.objs.size + 1) scope.names (cloFrom X.env.cells scope.names [])) fp
  have re := ke sC (upd HA a (S0 X.w a)) sC.heap.objs.size (cellsFrom (sC.heap.objs.size + 1) scope.names (cloFrom X.env.cells scope.names [])) fp
  have nofp : ∀ b ∈ fp, (upd HA a (S0 X.w a)) b = none := fun b m => (fpC b m).1.1
  show codeAny _ _ (.compStart (.SetComp elt [⟨tg, iter, ifs, 0⟩] scope pos) 0 (.ref it) (.ref a) (compEnvC scope (cellsFrom (sC.heap.objs.size + 1) scope.names (cloFrom X.env.cells scope.names [])) sC.heap.objs.size X.env)) (compPost (model X.prog X.w) X.A X.xe none _ (.ref a) sC.heap.objs.size) { sC with heap := pushCells (sC.heap.push { cls := .type "dict", data := .dict #[] }) scope.names }
  generalize ev : compEnvC scope (cellsFrom (sC.heap.objs.size + 1) scope.names (cloFrom X.env.cells scope.names [])) sC.heap.objs.size X.env = env at ID rg rt re ⊢
  have elc : env.locals = sC.heap.objs.size := by rw [← ev]; rfl
  generalize eH : upd HA a (S0 X.w a) = HC at IC ID rg rt re b0 nofp fpC
  generalize eD : ({ sC with heap := pushCells (sC.heap.push { cls := .type "dict", data := .dict #[] }) scope.names } : Shared) = sD at ID ⊢
  have tnD : tn 0 sD.heap := T.keep _ _ _ tnC fun b _ o e => eD ▸ pushCells_keeps _ _ _ _ (Heap.get?_push_of_some _ e)
  have inn : ∀ {τ : L2.St} {J : Hp} {t : Shared}, Inv (X.blk sC HC scope env fp) [] τ J t → (∀ b ∈ fp, J b = none) → ∀ b ∈ fp, FpOk (X.blk sC HC scope env fp) [] J b := fun L n b m =>
    ⟨n b m, (L.ok.exf b m).1, L.ok.exfs b m, .inl m, fun x c e => (L.ok.exf b m).2 x c e, fun p q => absurd (show p ∈ ([] : List (Addr × Obj)) ++ [] from q) (by simp)⟩
  refine PpSet.codeAny_compStart_set ?loop (T.self X.A 0 _ _ _ tnD ?loop)
  refine PpSet.compLoopS_any (fun n t => ∃ i K, Inv (X.blk sC HC scope env fp) [] (wipe σ (own.map (·.2))) K t ∧ tn i t.heap ∧ (∀ b ∈ fp, K b = none) ∧ B i n K) (fun n t hyp => ?_) m0 ⟨0, HC, ID, tnD, nofp, b0⟩
  obtain ⟨i, K, IK, tk, nk, bk⟩ := hyp
  rcases turn i n K bk with ⟨halt, fin⟩ | ⟨go, N, lower, step⟩
  · refine thnF (T.done (X.blk sC HC scope env fp) rfl rfl rfl hc i [] t _ K (fun _ _ => False) IK (inn IK nk) tk halt) fun r u ⟨er, IU⟩ => ?_
    subst er
    have IX : Inv X pins σ K u := IC.call' (ch := fp) IU.os IU.base IU.hok IU.bare fun b m => ⟨(fpC b m).1.2.2.2.1, (fpC b m).1.2.1, (fpC b m).1.2.2.2.2.1, (fpC b m).1.2.2.2.2.2⟩
    have nl : K sC.heap.objs.size = none := by
      rw [← elc]
      exact IU.free
    obtain ⟨md, hn, _⟩ := IU.loc
    have hn : u.heap.Ns sC.heap.objs.size md := by
      rw [← elc]
      exact hn
    obtain ⟨q0, q1, q2, q3, q4, q5⟩ := IC.fpOk (Nat.le_refl _) nl
    exact ⟨md, hn, fun hh sb => ⟨.ref a, K, IX.turned (t' := u.toks) (fun b o hb e => (sb.2 b hb).trans e) q0 q1 q3 q4 q5, rfl, fin⟩⟩
  · refine thnF (T.item (X.blk sC HC scope env fp) rfl rfl rfl hc i [] t _ K (fun _ _ => False) IK (inn IK nk) tk go) fun r u ⟨z, er, more⟩ => ?_
    subst er
    refine thnF more fun _ t1 ⟨x, K1, I1, r1, y1, tk1, nk1⟩ => ?_
    have P1 := I1.pinned (inn I1 nk1) (T.obj _ _ tk1)
    refine thnF (rg.run _ t1 _ K1 x z _ P1 r1 (step x K1 y1)) fun _ t2 ⟨σ2, K2, I2, ew, g2⟩ => ?_
    refine thnF (rt.run _ t2 σ2 K2 _ I2 g2) fun b t3 ⟨K3, I3, g3⟩ => ?_
    have back : ∀ {t' : Shared} {K' : Hp}, Inv (X.blk sC HC scope env fp) ([] ++ pinsAt fp t1.heap) σ2 K' t' → N K' → ∃ l, l < n ∧ ∃ i K, Inv (X.blk sC HC scope env fp) [] (wipe σ (own.map (·.2))) K t' ∧ tn i t'.heap ∧ (∀ b ∈ fp, K b = none) ∧ B i l K := fun {t' K'} I' nx => by
      obtain ⟨l, hl, bl⟩ := lower K' nx
      have stay : ∀ b ∈ fp, ∀ o, t1.heap.get? b = some o → t'.heap.get? b = some o ∧ K' b = none := fun b m o e =>
        have z := I'.pin (b, o) (List.mem_append_right _ (List.mem_append_right _ (mem_pinsAt m e)))
        ⟨z.1, z.2.1⟩
      refine ⟨l, hl, i + 1, K', (I'.unpinned (pins := [])).weak (by rw [← ew, wipe_length]) (fun j v e => ?_), T.keep _ _ _ tk1 fun b m o e => (stay b m o e).1, fun b m => ?_, bl⟩
      · rw [← ew] at e
        exact (wipe_some e).1
      · obtain ⟨o, e, _⟩ := T.obj _ _ tk1 b m
        exact (stay b m o e).2
    cases b with
    | false => exact back I3 g3
    | true =>
      have g3 : te σ2 K3 _ := g3
      refine thnF (re.run _ t3 σ2 K3 _ I3 g3) fun v t4 ⟨yv, K4, I4, rv, c, S, n0, ey, h4, room, nx⟩ => ?_
      subst ey
      exact thnF (mt_sadd (X := X.blk sC HC scope env fp) _ t4 σ2 K4 (.ref a) [.int c] (.ref a) [v] (fun _ K5 => N K5) I4 rfl (.cons rv .nil) ⟨a, c, S, n0, rfl, rfl, h4, room, nx⟩) fun _ t5 ⟨_, K5, I5, _, n5⟩ => back I5 n5
end
end DL

namespace DL
open PySem PySem.Spec PyProof.Rows L2
/-- what stands between two turns of a set comprehension -/
structure ScI (w : World) (S : Option Addr) (MD : Mu) (H1 : Hp) (Dl : Addr) (H : Hp) (acc : List Int) : Prop where
  at_ : ∃ n, n ≤ acc.length ∧ H Dl = some (SetO w Dl (fun k => decide (k ∈ acc)) n)
  fr : ∀ b o, H1 b = some o → S ≠ some b → b ≠ Dl → H b = some o
  src : ∀ a, S = some a → SrcOk MD H a
section
variable {w : World} {K : PySem.W.Frag} {G : Cls} {S : Option Addr} {H0 : Hp} {M0 : Mu} {σ : L2.St} {H1 H H' : Hp} {MD M1 M' : Mu} {ρ1 ρ' : En} {Dl : Addr} {acc : List Int} {vs : List Nat}
theorem ScI.start (R : Rep K G S H0 M0 ρ1 σ H1 M1) (hD : H1 Dl = none) : ScI w S (fun b => M1 b ∨ b = Dl) H1 Dl (upd H1 Dl (S0 w Dl)) [] := by
  have np : ∀ b o, H1 b = some o → b ≠ Dl := fun b o e z => by rw [z, hD] at e; cases e
  refine ⟨⟨0, Nat.le_refl _, by rw [upd_same]; show some (SetO w Dl (fun _ => false) 0) = _; congr 2⟩, fun b o e _ _ => by rw [upd_ne (np b o e)]; exact e, fun a ea => ?_⟩
  obtain ⟨⟨c, ns, pl, gr, tu, h1, h2, h3, h4⟩, m⟩ := R.src a ea
  exact ⟨c, ns, pl, gr, tu, by rw [upd_ne (np _ _ h1)]; exact h1, fun z => z.elim h2 (np _ _ h3), by rw [upd_ne (np _ _ h3)]; exact h3, h4⟩
theorem ScI.pre (L : ScI w S MD H1 Dl H acc) (B : Bs MD M1 H1 Dl) (R : Rep K G S H0 M0 ρ1 σ H1 M1) : Pre M1 H1 MD H := fun b o e n =>
  have z := B.sub b o e n
  ⟨L.fr b o e (fun w => n (R.src b w).2) (fun w => z (by rw [w]; exact B.dl)), z⟩
theorem ScI.mt (L : ScI w S MD H1 Dl H acc) (B : Bs MD M1 H1 Dl) (R : Rep K G S H0 M0 ρ1 σ H1 M1) : ∀ b, MD b → H b ≠ none := fun b m z => by
  by_cases eD : b = Dl
  · obtain ⟨_, _, h⟩ := L.at_
    rw [eD, h] at z; cases z
  · have m := (B.only b m).resolve_left eD
    by_cases e : S = some b
    · obtain ⟨c, ns, pl, gr, tu, h1, _⟩ := L.src b e
      rw [h1] at z; cases z
    · cases q : H1 b with
      | none => exact R.mt b m q
      | some o => rw [L.fr b o q e eD] at z; cases z
theorem ScI.rep (L : ScI w S MD H1 Dl H acc) (B : Bs MD M1 H1 Dl) (R : Rep K G S H0 M0 ρ1 σ H1 M1) : Rep K G S H MD (blkEn ρ1 vs) (L2.wipe σ vs) H MD := by
  refine ⟨?_, fun i d e => ?_, fun i kd ds e => ?_, fun i j kd ld ds es p e1 => ?_, fun a ea => ⟨L.src a ea, B.up a (R.src a ea).2⟩, L.mt B R, L.mt B R, fun _ m => m, fun _ _ e _ => e⟩
  · rw [L2.wipe_length, R.len]
    unfold blkEn
    rw [wipeE_length, List.length_map]
  · obtain ⟨d', e1, e2, n⟩ := blkEn_some e
    cases e1
    obtain ⟨v, h1, h2⟩ := R.dat i d e2
    exact ⟨v, by rw [L2.wipe_out n]; exact h1, h2.pre (L.pre B R)⟩
  · obtain ⟨d', e1, _⟩ := blkEn_some e
    cases e1
  · obtain ⟨d', e2, _⟩ := blkEn_some e1
    cases e2
theorem ScI.keep (L : ScI w S MD H1 Dl H acc) (nD : S ≠ some Dl) (hS : ∀ a, S = some a → MD a) {σ' : L2.St} (R' : Rep K G S H MD ρ' σ' H' M') : ScI w S MD H1 Dl H' acc := by
  obtain ⟨n, hn, h1⟩ := L.at_
  exact ⟨⟨n, hn, R'.fr Dl _ h1 nD⟩, fun b o e n q => R'.fr b o (L.fr b o e n q) n, fun a ea => (R'.src a ea).1.mono R'.m0⟩
theorem ScI.push (L : ScI w S MD H1 Dl H acc) (nD : S ≠ some Dl) (hS : ∀ a, S = some a → MD a) (hd : MD Dl) {σ' : L2.St} (c : Int) (R' : Rep K G S H MD ρ' σ' H' M') :
    ∃ (T : Int → Bool) (n : Nat), H' Dl = some (SetO w Dl T n) ∧ n ≤ acc.length ∧ ScI w S MD H1 Dl (upd H' Dl (addS w Dl c T n)) (acc ++ [c]) := by
  have L' := L.keep nD hS R'
  obtain ⟨n, hn, h1⟩ := L'.at_
  refine ⟨_, n, h1, hn, ⟨if decide (c ∈ acc) = true then n else n + 1, ?_, ?_⟩, fun b o e n q => ?_, fun a ea => ?_⟩
  · rw [List.length_append, List.length_singleton]
    split <;> omega
  · rw [upd_same]
    show some (SetO w Dl (fun j => decide (j ∈ acc) || decide (j = c)) (if decide (c ∈ acc) = true then n else n + 1)) = _
    congr 2
    funext k
    simp
  · rw [upd_ne q]
    exact L'.fr b o e n q
  · have pr : Pre MD H' MD (upd H' Dl (addS w Dl c (fun k => decide (k ∈ acc)) n)) := fun b o e n => ⟨by rw [upd_ne (show b ≠ Dl from fun z => n (by rw [z]; exact hd))]; exact e, n⟩
    exact (L'.src a ea).pre pr (upd_ne (fun z => nD (z ▸ ea)))
end
section
variable {X : Cx} {G : Cls} {ρ : En} {pos : Pos} {tg iter elt : Expr} {scope : Scope} {own : List (Str × Nat)}
/-- what sorted({e for x in xs if ..}) asks -/
def ScAsk (X : Cx) (G : Cls) (scope : Scope) (tg elt : Expr) (ifs : List Expr) (own : List (Str × Nat)) (Φ : List D → En → Prop) (ds : List D) (ρ1 : En) : Prop :=
  ds.length < 64 ∧ ∃ J : Nat → List Int → Prop, J 0 [] ∧
      (∀ k d acc, ds[k]? = some d → J k acc → ∀ s H C cl fp, WG (Bk X scope s H C cl fp) G (fun j => j ∈ own.map (·.2)) tg d (blkEn ρ1 (own.map (·.2))) fun ρ3 => WTs X G scope ifs ρ3 fun b ρ4 =>
        if b = true then ∀ s H C cl fp, WE (Bk X scope s H C cl fp) G elt ρ4 fun y _ => ∃ c : Int, y = .int c ∧ J (k + 1) (acc ++ [c]) else J (k + 1) acc) ∧
      ∀ acc out : List Int, J ds.length acc → out.Pairwise (· < ·) → (∀ k, k ∈ out ↔ k ∈ acc) → Φ (out.map D.int) ρ1
theorem fSortSc (own : List (Str × Nat)) {ifs : List Expr} {x : Str} {p qos : Pos} {Φ : List D → En → Prop} (h : WI X G tg iter ρ (ScAsk X G scope tg elt ifs own Φ)) (hm : X.mg x = none := by assumption) (hb : bootBuiltins x = some (.builtin "sorted") := by exact bt_sorted) (hc : X.calm = true := by rfl) (hN : X.N.Nodup := by assumption) (hg : Gl X x := by rfl)
    (hn : x ≠ "__name__" := by decide) (hdb : (x == ("__debug__" : Str)) = false := by decide) (ok : BlkOk X.N X.env.scope scope own := by exact blkOk_by (by kernel_rfl)) (hs : ∀ x, foldedSetIterable iter X.env x = pure x := by exact fun _ => rfl)
    (na : starEach [.SetComp elt [⟨tg, iter, ifs, 0⟩] scope qos] X.env = (false, eval (.SetComp elt [⟨tg, iter, ifs, 0⟩] scope qos) X.env) :: starEach [] X.env := by rfl) (hpl : (backTo pos (starEach [] X.env)).any (·.1) = false := by rfl) :
    WF X G (.Call (.Name x p) [.SetComp elt [⟨tg, iter, ifs, 0⟩] scope qos] [] pos) ρ Φ := fun S H0 M0 σ H M R Q kk => by
  refine mE_of (pe_callB (cr_sortedSet hc) hg hm hb (pa_cons (scI_run (own := own) (g := gBk X scope tg) (tt := tTs X scope ifs) (te := eBk X scope elt) hc hN (pi_m X tg iter) ok (fun s H C cl fp => ⟨fun pins s2 σ H2 v u Q I r h => h s H C cl fp pins s2 u I r⟩) (fun s H C cl fp => pts_m X scope ifs s H C cl fp) (fun s H C cl fp => ⟨fun pins s2 σ H2 Q I h => h s H C cl fp pins s2 I⟩) hs) pa_nil na) hn hdb na hpl) ?_
  refine h S H0 M0 σ H M R _ fun It H1 M1 ds ρ1 p1 R1 it ⟨hz, J, j0, turn, fin⟩ => fun Dl hD => ?_
  have B : Bs (fun b => M1 b ∨ b = Dl) M1 H1 Dl := Bs.new hD
  have nD : S ≠ some Dl := fun e => R1.mt Dl (R1.src Dl e).2 hD
  have hS : ∀ a, S = some a → (M1 a ∨ a = Dl) := fun a ea => .inl (R1.src a ea).2
  refine ⟨fun i m H => m = ds.length - i ∧ i ≤ ds.length ∧ ∃ acc, acc.length ≤ i ∧ ScI X.w S (fun b => M1 b ∨ b = Dl) H1 Dl H acc ∧ J i acc, ⟨ds.length, by simp, Nat.zero_le _, [], Nat.le_refl _, ScI.start R1 hD, j0⟩, ?_⟩
  rintro i m H2 ⟨rfl, hi, acc, hl, L, inv⟩
  have ii := it _ H2 (L.pre B R1) (L.mt B R1) i
  by_cases hlt : i < ds.length
  · obtain ⟨go, yl⟩ := ii.1 ds[i] (List.getElem?_eq_getElem hlt)
    refine .inr ⟨go, fun H' => ∃ acc, acc.length ≤ i + 1 ∧ ScI X.w S (fun b => M1 b ∨ b = Dl) H1 Dl H' acc ∧ J (i + 1) acc, fun H' q => ⟨ds.length - (i + 1), by omega, rfl, hlt, q⟩, fun x H3 y => ?_⟩
    obtain ⟨sm, rx⟩ := yl x H3 y
    have R2 : Rep X.K G S H2 (fun b => M1 b ∨ b = Dl) (blkEn ρ1 (own.map (·.2))) (L2.wipe σ (own.map (·.2))) H3 (fun b => M1 b ∨ b = Dl) := (L.rep B R1).same sm
    intro s H' C cl fp
    refine turn i ds[i] acc (List.getElem?_eq_getElem hlt) inv s H' C cl fp S H2 _ _ H3 _ x R2 rx _ fun σ4 H4 M4 ρ4 c4 p4 R4 w4 => ⟨?_, ?_⟩
    · exact (wipe_chg c4).trans (wipe_chg (wipe_wipe σ _)).symm
    · refine wts_run w4 R4 fun b H5 M5 ρ5 p5 R5 w5 => ?_
      cases b with
      | true =>
        refine fun s H' C cl fp => w5 s H' C cl fp S H2 _ σ4 H5 M5 R5 _ fun v H6 M6 d ρ6 p6 R6 r6 w6 => ?_
        obtain ⟨c, rfl, w6⟩ := w6
        obtain ⟨T, n, e1, e2, L'⟩ := L.push nD hS (.inr rfl) c R6
        exact ⟨c, T, n, r6.int_, e1, by show _ < 4096; omega, acc ++ [c], by simp; omega, L', w6⟩
      | false => exact ⟨acc, by omega, L.keep nD hS R5, w5⟩
  · have e : i = ds.length := by omega
    subst e
    refine .inl ⟨ii.2 (Nat.le_refl _), ?_⟩
    obtain ⟨n, hn, hD2⟩ := L.at_
    have ne : ∀ b o, H1 b = some o → b ≠ Dl := fun b o e z => by rw [z, hD] at e; cases e
    obtain ⟨R2, p2⟩ := R1.frame (H' := H2) (fun b o e n => L.fr b o e n (ne b o e)) (fun a ea => (L.src a ea).mono fun b m => .inl m)
    refine ⟨Dl, _, n, rfl, hD2, by omega, fun out q ha hmem _ hq => ?_⟩
    exact kk q _ _ M1 _ ρ1 (p1.trans p2) R2 hq (rpA_of_ints _) (fin acc out inv ha fun k => by rw [hmem]; simp)
end
end DL

namespace DL
open PySem PySem.Spec PyProof.Rows L2
theorem Room.u70 {k : Nat} {A : Around} (r : Room k A) : A.units + 70 < cLine := by have := r.un; omega
theorem Room.u1 {k : Nat} {A : Around} (r : Room k A) : A.units + 1 < cLine := by have := r.un; omega
section
variable {P : Program} {w : World} {K : PySem.W.Frag} {mg : Str → Option Value} {base : Heap} {G : Cls}
/-- a def that calls itself: level by level -/
theorem Tp.recF {x : Str} {st : Stmt} {N ps : List Str} {n : Nat} (k0 : Nat) (sp : Nat → DSpec) (T : Tp K mg x st ps) (hn : ps.length = n) (S : FnScope N ps (defScope st)) (len : ∀ m ds Ψ, sp m ds Ψ → ds.length = ps.length) (z : ∀ ds Ψ, ¬ sp 0 ds Ψ)
    (step : ∀ k m, k0 ≤ k → Fd P w K mg base G k x n (sp m) → BodyOk P w K mg base G k N x st (sp (m + 1))) : ∀ m, Fd P w K mg base G (k0 + m + 1) x n (sp m)
  | 0 => T.fd hn S (len 0) fun _ _ _ _ _ _ _ _ ds Ψ h => absurd h (z ds Ψ)
  | m + 1 => T.fd hn S (len (m + 1)) (step (k0 + m + 1) m (by omega) (Tp.recF k0 sp T hn S len z step m))
variable {X : Cx} {ρ : En} {pos p : Pos} {e : Expr} {es : List Expr} {x : Str}
theorem ai {i : Int} {j : Nat} {Φ : List D → En → Prop} (h : WA X G es ρ fun ds ρ2 => Φ (.int i :: ds) ρ2) : WA X G (.Constant (.int i) j pos :: es) ρ Φ := acons (we_int h) rfl
theorem aC {g : Expr} {as : List Expr} {kw : List Keyword} {Φ : List D → En → Prop} (h : WE X G (.Call g as kw pos) ρ fun d ρ1 => WA X G es ρ1 fun ds ρ2 => Φ (d :: ds) ρ2) : WA X G (.Call g as kw pos :: es) ρ Φ := acons h rfl
theorem emake {c k : Nat} {g : Addr} {fd : FuncData} {ps : List Str} {Φ : D → En → Prop} (mk : Mk X.K (G c).1 g) (F : FnOk X.prog X.w X.K X.mg X.base CX0 k g fd ps (spIni (G c).1 (G c).2)) (hbi : Binds X.K fd ps []) (hm : X.mg x = some (.ref (G c).1))
    (h : WA X G (e :: es) ρ fun ds ρ1 => ds.length = (G c).2.length ∧ Φ (.obj c ds) ρ1) (hr : Room (k + 1) X.A := by first | assumption | exact Room.mono (by assumption) (by decide)) (hg : Gl X x := by rfl)
    (hdb : (x == ("__debug__" : Str)) = false := by decide) (he : starEach (e :: es) X.env = (false, eval e X.env) :: starEach es X.env := by rfl) (hpl : (backTo pos (starEach es X.env)).any (·.1) = false := by rfl) : WE X G (.Call (.Name x p) (e :: es) [] pos) ρ Φ := we_make mk F hbi hr hg hm hdb he hpl h
end
/-- a, b, c = x, y, z -/
theorem spar3 (i j l : Nat) {X : Cx} {G : Cls} {ρ : En} {pos : Pos} {P : Po} {a b c : Expr} {x y z : Str} {px py pz pt : Pos} {kt k2 pt2} (h : WA X G [a, b, c] ρ fun ds ρ1 => ∃ d1 d2 d3, ds = [d1, d2, d3] ∧ P.nx (((ρ1.set i (some (.dat d1))).set j (some (.dat d2))).set l (some (.dat d3))))
    (hc : X.calm = true := by rfl) (hN : X.N.Nodup := by assumption) (hi : X.N[i]? = some x := by rfl) (hj : X.N[j]? = some y := by rfl) (hl : X.N[l]? = some z := by rfl) (hij : i ≠ j := by decide) (hil : i ≠ l := by decide) (hjl : j ≠ l := by decide)
    (hx : X.env.scope.names.lookup x = some .local := by rfl) (hy : X.env.scope.names.lookup y = some .local := by rfl) (hz : X.env.scope.names.lookup z = some .local := by rfl)
    (hw : swappedStores [.Tuple [.Name x px, .Name y py, .Name z pz] kt pt] (.Tuple [a, b, c] k2 pt2) X.env = pure (some [x, y, z]) := by rfl)
    (hs : swapsWithSole [.Tuple [.Name x px, .Name y py, .Name z pz] kt pt] (.Tuple [a, b, c] k2 pt2) pos.line X.env = pure false := by rfl) :
    WS X G (.Assign [.Tuple [.Name x px, .Name y py, .Name z pz] kt pt] (.Tuple [a, b, c] k2 pt2) pos) ρ P := fun S H0 M0 σ H M R E k => by
  refine mS_of (ps_par3 hc hN hi hj hl hij hil hjl hx hy hz (pa_m X [a, b, c]) hw hs) (h S H0 M0 σ H M R _ fun vs H1 M1 ds ρ1 p1 R1 r1 w1 => ?_)
  obtain ⟨d1, d2, d3, rfl, w⟩ := w1
  cases r1 with
  | cons g1 r2 =>
    obtain ⟨u, v, rfl, g2, g3⟩ := r2.inv2
    exact ⟨_, u, v, rfl, k.nx _ H1 M1 _ p1 (((R1.set g1).set g2).set g3) w⟩
theorem bls_of {ys : List D} (h : ∀ (k : Nat) y, ys[k]? = some y → ∃ t, y = D.bl t) : ∃ ts : List Bool, ys = ts.map D.bl := by
  induction ys with
  | nil => exact ⟨[], rfl⟩
  | cons y r ih =>
    obtain ⟨t, rfl⟩ := h 0 y rfl
    obtain ⟨ts, rfl⟩ := ih fun k z hz => h (k + 1) z (by simpa using hz)
    exact ⟨t :: ts, rfl⟩
theorem rng_nat (N : Nat) : rngD 0 ((N : Nat) : Int).toNat = (List.range N).map fun i => D.int (i : Nat) := by
  rw [Int.toNat_natCast]
  unfold rngD
  apply List.map_congr_left
  intro i _
  show D.int (0 + (i : Nat)) = D.int (i : Nat)
  rw [Int.zero_add]
theorem nats_of {N : Nat} : ∀ {ys : List D}, (∀ y ∈ ys, ∃ o : Nat, y = D.int (o : Nat) ∧ o < N) → ∃ os : List Nat, ys = os.map (fun o => D.int (o : Nat)) ∧ ∀ o ∈ os, o < N
  | [], _ => ⟨[], rfl, by simp⟩
  | y :: ys, h => by
    obtain ⟨o, rfl, ho⟩ := h y (by simp)
    obtain ⟨os, rfl, hos⟩ := nats_of (ys := ys) fun z hz => h z (by simp [hz])
    exact ⟨o :: os, rfl, fun z hz => by
      rcases List.mem_cons.mp hz with rfl | hz
      · exact ho
      · exact hos z hz⟩

section
variable {X : Cx} {G : Cls} {ρ ρ1 : En} {pos : Pos} {tg iter elt : Expr} {scope : Scope} {own : List (Str × Nat)} {Φ : List D → En → Prop} {ds : List D} {α : Type}
/-- sorted({key x for x in L if p x}) -/
theorem scask_filt {c : Expr} (L : List α) (f : α → D) (key : α → Int) (p : α → Bool) (hds : ds = L.map f) (hz : L.length < 64)
    (turn : ∀ (k : Nat) x, L[k]? = some x → ∀ s H C cl fp, WG (Bk X scope s H C cl fp) G (fun j => j ∈ own.map (·.2)) tg (f x) (blkEn ρ1 (own.map (·.2))) fun ρ3 => ∀ s H C cl fp, WT (Bk X scope s H C cl fp) G c ρ3 fun b ρ4 =>
      b = p x ∧ (p x = true → ∀ s H C cl fp, WE (Bk X scope s H C cl fp) G elt ρ4 fun y _ => y = .int (key x)))
    (fin : ∀ out : List Int, out.Pairwise (· < ·) → (∀ k, k ∈ out ↔ k ∈ (L.filter p).map key) → Φ (out.map D.int) ρ1) : ScAsk X G scope tg elt [c] own Φ ds ρ1 := by
  subst hds
  refine ⟨by simpa using hz, fun k acc => acc = ((L.take k).filter p).map key, by simp, fun k d acc hd hJ s H C cl fp => ?_, fun acc out hJ ha hm => fin out ha fun k => ?_⟩
  · rw [List.getElem?_map] at hd
    cases q : L[k]? with
    | none => rw [q] at hd; cases hd
    | some x =>
      rw [q] at hd
      cases hd
      have t := turn k x q s H C cl fp
      intro S H0 M0 σ H' M v R r Q kk
      refine t S H0 M0 σ H' M v R r Q fun σ' H'' M' ρ' c' p' R' w => kk σ' H'' M' ρ' c' p' R' ?_
      show ∀ s H C cl fp, WT (Bk X scope s H C cl fp) G c ρ' _
      intro s H C cl fp
      refine wt_mono (w s H C cl fp) fun b ρ' ⟨e, w⟩ => ?_
      subst e
      have step : ((L.take (k + 1)).filter p).map key = acc ++ (if p x = true then [key x] else []) := by
        rw [hJ, List.take_add_one, q, List.filter_append, List.map_append]
        by_cases hp : p x = true
        · simp [hp]
        · simp [hp]
      refine ite2 (fun hp => ?_) (fun hp => ?_)
      · intro s H C cl fp
        refine we_mono (w hp s H C cl fp) fun d ρ' e => ?_
        refine ⟨key x, e, ?_⟩
        show acc ++ [key x] = ((L.take (k + 1)).filter p).map key
        rw [step, if_pos hp]
      · show acc = ((L.take (k + 1)).filter p).map key
        rw [step, if_neg hp, List.append_nil]
  · rw [hm, hJ, List.length_map, List.take_length]
end
/-! ### max(xs, default=d) -/
def mxD (d : Int) : List Int → Int
  | [] => d
  | x :: xs => xs.foldl (fun a y => if a < y then y else a) x
theorem intsHold {h : Heap} : ∀ {ns : List Int} {us : List Value}, Vals (ns.map V.int) us → PySem.W.HoldAll h us ns
  | [], _, .nil => ⟨[], .nil⟩
  | n :: ns, _, .cons r t => by
    obtain ⟨tk, rfl⟩ := r
    obtain ⟨as, q⟩ := intsHold (h := h) t
    exact ⟨_, .cons (.int n tk) q⟩
theorem holdsI {h : Heap} {v : Value} {m : Int} (q : PySem.W.Holds h v m) : ∃ t, v = .int m t := by
  obtain ⟨as, r⟩ := q
  cases r with
  | int _ t => exact ⟨t, rfl⟩
theorem mxD_cons (d y : Int) (ys : List Int) : PySem.W.maxOf y ys = mxD d (y :: ys) := by
  unfold PySem.W.maxOf mxD
  congr 1
  funext a b
  show (if decide (a < b) = true then b else a) = _
  by_cases h : a < b
  · rw [if_pos h, if_pos (decide_eq_true h)]
  · rw [if_neg h, if_neg (by rw [decide_eq_false h]; decide)]
def rMaxD (K : PySem.W.Frag) : List V → List V → Hp → VK → Prop := fun vs zs H Q => ∃ (a : Addr) (ns : List Int) (d : Int), vs = [.ref a] ∧ zs = [.int d] ∧ (SqL K H a (ns.map V.int) ∨ SqT K H a (ns.map V.int)) ∧ Q (.int (mxD d ns)) H
section
variable {X : Cx} {G : Cls} {ρ : En} {pos p : Pos} {e kv : Expr} {x : Str}
theorem cr_maxD (hc : X.calm = true) (hu : X.A.units + 1 < cLine) : CallRK X (.builtin "max") [Str.ofString "default"] (rMaxD X.K) := by
  intro pins s σ H vs zs us ws Q I r rz h
  obtain ⟨a, ns, d, rfl, rfl, hs, q⟩ := h
  obtain ⟨u, rfl, ru⟩ := vals1 r
  obtain rfl : u = Value.ref a := ru
  obtain ⟨w, rfl, td, rfl⟩ := vals1 rz
  have f0 : ns = [] → ∀ (h' : Heap) (tk : Nat), (∀ b o, s.heap.get? b = some o → h'.get? b = some o) → EP X pins σ Q (.int d td) { s with heap := h', toks := tk } := fun e h' tk hk => by
    subst e
    exact ⟨.int d, H, I.kept hk, ⟨_, rfl⟩, q⟩
  have f1 : ∀ (y : Int) (ys : List Int) (v : Value) (h' : Heap) (tk : Nat), ns = y :: ys → PySem.W.Holds h' v (PySem.W.maxOf y ys) → (∀ b o, s.heap.get? b = some o → h'.get? b = some o) → EP X pins σ Q v { s with heap := h', toks := tk } := fun y ys v h' tk e hv hk => by
    subst e
    obtain ⟨t, rfl⟩ := holdsI hv
    rw [mxD_cons d]
    exact ⟨.int _, H, I.kept hk, ⟨_, rfl⟩, q⟩
  rcases hs with hs | hs
  · obtain ⟨its, rv, hl, hz⟩ := I.list hs
    exact PySem.W.max_list_datum_default (α := Int) (xs := ns) (I.ok.hd hc) hl.isList (by simpa using intsHold rv) hu f0 fun y ys i v h' tk e _ hv hk => f1 y ys v h' tk e hv hk
  · obtain ⟨its, rv, hl, hz⟩ := I.tuple hs
    exact PySem.W.max_tuple_datum_default (α := Int) (xs := ns) (I.ok.hd hc) hl (by simpa using intsHold rv) hu f0 fun y ys i v h' tk e _ hv hk => f1 y ys v h' tk e hv hk
theorem cr_max1 (hc : X.calm = true) (hu : X.A.units + 1 < cLine) : CallR X (.builtin "max") (fun vs H Q => ∃ (a : Addr) (y : Int) (ys : List Int), vs = [.ref a] ∧ SqL X.K H a ((y :: ys).map V.int) ∧ Q (.int (mxD 0 (y :: ys))) H) := by
  intro pins s σ H vs us Q I r h
  obtain ⟨a, y, ys, rfl, hs, q⟩ := h
  obtain ⟨u, rfl, ru⟩ := vals1 r
  obtain rfl : u = Value.ref a := ru
  obtain ⟨its, rv, hl, hz⟩ := I.list hs
  refine PySem.W.max_list_datum (α := Int) (x := y) (xs := ys) (I.ok.hd hc) hl.isList (by simpa using intsHold rv) hu fun i v h' tk _ hv hk => ?_
  obtain ⟨t, rfl⟩ := holdsI hv
  rw [mxD_cons 0]
  exact ⟨.int _, H, I.kept hk, ⟨_, rfl⟩, q⟩
theorem cd_maxL {y : Int} {ys : List Int} {Ψ : D → Prop} (hc : X.calm = true) (hu : X.A.units + 1 < cLine) (h : Ψ (.int (mxD 0 (y :: ys)))) : CallD X G (.builtin "max") [.lst ((y :: ys).map D.int)] Ψ := cd_of (cr_max1 hc hu) fun S M H vs mt r Q k => by
  obtain ⟨u, rfl, r1⟩ := r.inv1
  obtain ⟨a, xs, rfl, h1, g1⟩ := r1.lst_
  rw [rpA_ints g1] at h1
  exact ⟨a, y, ys, rfl, h1.sq, k _ _ _ (Same.refl _) (.int _) h⟩
theorem emaxD {kpos : Pos} {Φ : D → En → Prop} (h : WE X G e ρ fun d ρ1 => ∃ ns : List Int, (d = .lst (ns.map D.int) ∨ d = tupI ns) ∧ WE X G kv ρ1 fun dv ρ2 => ∃ k : Int, dv = .int k ∧ Φ (.int (mxD k ns)) ρ2) (hu : X.A.units + 1 < cLine := by assumption) (hm : X.mg x = none := by assumption) (hv : bootBuiltins x = some (.builtin "max") := by exact bt_max) (hc : X.calm = true := by rfl) (hg : Gl X x := by rfl)
    (hn : x ≠ "__name__" := by decide) (hdb : (x == ("__debug__" : Str)) = false := by decide) (na : starEach [e] X.env = (false, eval e X.env) :: starEach [] X.env := by rfl) (he : backTo pos (starEach [e] X.env) = (false, eval e X.env) :: backTo pos (starEach [] X.env) := by rfl) (hpl : (backTo pos (starEach [e] X.env)).any (·.1) = false := by rfl)
    (hall : (backToKw pos (keywordEach [⟨some "default", kv, kpos⟩] X.env)).all (·.1.isSome) = true := by rfl) (hnone : (backToKw pos (keywordEach [⟨some "default", kv, kpos⟩] X.env)).any (·.1.isNone) = false := by rfl) (hks : (backToKw pos (keywordEach [⟨some "default", kv, kpos⟩] X.env)).filterMap (·.1) = [Str.ofString "default"] := by rfl) :
    WE X G (.Call (.Name x p) [e] [⟨some "default", kv, kpos⟩] pos) ρ Φ := fun S H0 M0 σ H M R Q k => by
  refine mE_of (pe_callBK (cr_maxD hc hu) hg hm hv (pa_cons (pe_m X e) pa_nil na) (pk_cons (pe_m X kv) pk_nil) hn hdb he hpl hall hnone hks) ?_
  refine h S H0 M0 σ H M R _ fun v H1 M1 d1 ρ1 p1 R1 r1 ⟨ns, hd, w1⟩ => w1 S H0 M0 σ H1 M1 R1 _ fun u H2 M2 d2 ρ2 p2 R2 r2 ⟨kk, e2, w2⟩ => ?_
  subst e2
  obtain rfl := r2.int_
  have hs : ∃ a, v = .ref a ∧ (SqL X.K H2 a (ns.map V.int) ∨ SqT X.K H2 a (ns.map V.int)) := by
    have r1 := r1.pre p2
    rcases hd with rfl | rfl
    · obtain ⟨a, xs, rfl, h1, g1⟩ := r1.lst_
      rw [rpA_ints g1] at h1
      exact ⟨a, rfl, .inl h1.sq⟩
    · obtain ⟨a, xs, rfl, h1, g1⟩ := Rp.tup_ r1
      rw [rpA_ints g1] at h1
      exact ⟨a, rfl, .inr h1.sq⟩
  obtain ⟨a, rfl, hs⟩ := hs
  exact ⟨a, ns, kk, rfl, rfl, hs, k _ H2 M2 _ ρ2 (p1.trans p2) R2 (.int _) w2⟩
/-- a, b, c = {}, [], [0] * m : all owned -/
theorem sparKOZ (i j l im : Nat) {P : Po} {x y z mm : Str} {n : Int} {px py pz pt pd pl pb p1 p2 pm : Pos} {kt k2 pt2 c1} (h : P.nx (((ρ.set i (some (dicE []))).set j (some (.own []))).set l (some (.own (List.replicate n.toNat (.int 0)))))) (hr : ρ[im]? = some (some (.dat (.int n))) := by rfl) (n0 : 0 ≤ n := by omega) (n1 : n ≤ 1000 := by omega) (hc : X.calm = true := by rfl) (hN : X.N.Nodup := by assumption) (hi : X.N[i]? = some x := by rfl) (hj : X.N[j]? = some y := by rfl) (hl : X.N[l]? = some z := by rfl)
    (hmN : X.N[im]? = some mm := by rfl) (hv : Vis X.env.scope mm := by first | exact Or.inl rfl | exact Or.inr (Or.inl rfl) | exact Or.inr (Or.inr rfl)) (hd : (mm == ("__debug__" : Str)) = false := by decide) (hcd : (mm == ("__classdict__" : Str)) = false := by decide)
    (hij : i ≠ j := by decide) (hil : i ≠ l := by decide) (hjl : j ≠ l := by decide)
    (hx : X.env.scope.names.lookup x = some .local := by rfl) (hy : X.env.scope.names.lookup y = some .local := by rfl) (hz : X.env.scope.names.lookup z = some .local := by rfl)
    (hw : swappedStores [.Tuple [.Name x px, .Name y py, .Name z pz] kt pt] (.Tuple [.Dict [] [] pd, .List [] pl, .BinOp (.List [.Constant (.int 0) c1 p1] p2) .Mult (.Name mm pm) pb] k2 pt2) X.env = pure (some [x, y, z]) := by rfl)
    (hs : swapsWithSole [.Tuple [.Name x px, .Name y py, .Name z pz] kt pt] (.Tuple [.Dict [] [] pd, .List [] pl, .BinOp (.List [.Constant (.int 0) c1 p1] p2) .Mult (.Name mm pm) pb] k2 pt2) pos.line X.env = pure false := by rfl)
    (ha : starEach [.Dict [] [] pd, .List [] pl, .BinOp (.List [.Constant (.int 0) c1 p1] p2) .Mult (.Name mm pm) pb] X.env = (false, eval (.Dict [] [] pd) X.env) :: starEach [.List [] pl, .BinOp (.List [.Constant (.int 0) c1 p1] p2) .Mult (.Name mm pm) pb] X.env := by rfl)
    (hb : starEach [.List [] pl, .BinOp (.List [.Constant (.int 0) c1 p1] p2) .Mult (.Name mm pm) pb] X.env = (false, eval (.List [] pl) X.env) :: starEach [.BinOp (.List [.Constant (.int 0) c1 p1] p2) .Mult (.Name mm pm) pb] X.env := by rfl)
    (hcc : starEach [.BinOp (.List [.Constant (.int 0) c1 p1] p2) .Mult (.Name mm pm) pb] X.env = (false, eval (.BinOp (.List [.Constant (.int 0) c1 p1] p2) .Mult (.Name mm pm) pb) X.env) :: starEach [] X.env := by rfl)
    (he : starEach [.Constant (.int 0) c1 p1] X.env = (false, eval (.Constant (.int 0) c1 p1) X.env) :: starEach [] X.env := by rfl) :
    WS X G (.Assign [.Tuple [.Name x px, .Name y py, .Name z pz] kt pt] (.Tuple [.Dict [] [] pd, .List [] pl, .BinOp (.List [.Constant (.int 0) c1 p1] p2) .Mult (.Name mm pm) pb] k2 pt2) pos) ρ P := fun S H0 M0 σ H M R E k => by
  refine mS_of (ps_par3 hc hN hi hj hl hij hil hjl hx hy hz (pa_cons pe_dnewK (pa_cons (pe_lst pa_nil) (pa_cons (pe_op op_rep (pe_lst (pa_cons pe_int pa_nil he)) (pe_var hmN hv hd hcd)) pa_nil hcc) hb) ha) hw hs) ?_
  obtain ⟨vm, hvm, rm⟩ := R.dat im _ hr
  obtain rfl := rm.int_
  intro a ha0
  refine ⟨Nat.zero_le _, fun b hb0 => ?_⟩
  refine ⟨sz_le (show 1 ≤ 1000000 by decide), fun t ht0 => ?_⟩
  refine ⟨.int n, hvm, t, n, [.int 0], rfl, rfl, upd_same, by omega, by omega, sz_le (by show 1 * n.toNat ≤ 1000000; omega), fun q hq => ?_⟩
  refine ⟨_, _, _, rfl, ?_⟩
  obtain ⟨R1, p1⟩ := R.newOwnK (i := i) (k0 := .K []) (ds := []) (vs := []) ha0 .nil
  obtain ⟨R2, p2⟩ := R1.newOwn (i := j) (ds := []) (vs := []) hb0 .nil
  obtain ⟨R3, p3, _⟩ := R2.laid (o := .lst [.int 0]) ht0
  have rz : ∀ m : Nat, RpA X.K G S (fun c => (M c ∨ c = a) ∨ c = b) (upd (upd (upd H a (.dK [])) b (.lst [])) t (.lst [.int 0])) (List.replicate m [V.int 0]).flatten (List.replicate m (.int 0)) := fun m => by
    induction m with
    | zero => exact .nil
    | succ m ih => rw [List.replicate_succ, List.replicate_succ, List.flatten_cons]; exact .cons (.int 0) ih
  obtain ⟨R4, p4⟩ := R3.newOwn (i := l) hq (rz n.toNat)
  exact k.nx _ _ _ _ (((p1.trans p2).trans p3).trans p4) R4 h
end
end DL

namespace K01
open PySem PySem.Spec PyProof.Rows L2 DL
def topS (i : Nat) : Stmt := PySem.Challenge.pw_soonestsaid_k01_typical_rows_one_for_eac.main.body.getD i (.Pass ⟨0, 0, 0, 0⟩)
abbrev sTake : Stmt := topS 9
theorem scTake : FnScope ["_law_source_here", "_law_many", "_law_cell", "_law_mixed_here", "_law_told"] ["_law_source_here", "_law_many"] (defScope sTake) := ⟨rfl, rfl, rfl, by decide +kernel, rfl, by decide +kernel, by decide +kernel⟩
section
variable {P : Program} {w : World} {K : PySem.W.Frag} {mg : Str → Option Value} {base : Heap} {G : Cls}
def spTake : DSpec := fun ds Ψ => ∃ many : Int, ds = [.src, .int many] ∧ 0 < many ∧ many.natAbs.log2 < 9000 ∧ ∀ v : Int, 0 ≤ v → v < many → Ψ (.int v)
theorem ok_take {f : Addr} {fd : FuncData} {k : Nat} {q : Str} (F : Fun K q q sTake f fd) (ml : mg "len" = none) (mi : mg "int" = none) : FnOk P w K mg base CX0 (k + 1) f fd ["_law_source_here", "_law_many"] (SpD K G spTake) := by
  refine F.ok scTake (fun vs H Q E h => ?_) (fun cdv A outer s H vs Q E hr h => ?_)
  · obtain ⟨S, M, ds, Ψ, _, _, r, ⟨many, rfl, _⟩, _⟩ := h
    rw [r.length]
    rfl
  obtain ⟨S, M, ds, Ψ, mt, sr, r, ⟨many, rfl, h0, h9, hΨ⟩, q⟩ := h
  obtain ⟨u, v, rfl, r1, r2⟩ := r.inv2
  obtain rfl := r2.int_
  cases r1 with
  | @src a hS =>
  obtain ⟨⟨c, ns, pl, gr, tu, hA, hc, hC, hpl⟩, hM⟩ := sr a hS
  subst hS
  have nac : a ≠ c := fun z => hc (z ▸ hM)
  refine ⟨_, pss_cons (ps_if (pt_cmpR op_eq (pe_ix ix_list (pv 0) pe_int (fun _ _ => rfl)) pe_int (nomark _))
      (pss_cons (ps_set (i := 2) scTake.nd rfl (.inl rfl) pe_int)
      (pss_cons (ps_if (pt_cmpR op_lt (pe_ix ix_list (pv 0) pe_int (fun _ _ => rfl)) (pe_callB call_len_seq (by rfl) ml PySem.boot_len (pa_cons (pe_ix ix_list (pv 0) pe_int (fun _ _ => rfl)) pa_nil)) (nomark _))
          (pss_one (ps_set (i := 2) scTake.nd rfl (.inl rfl) (pe_ix ix_list (pe_ix ix_list (pv 0) pe_int (fun _ _ => rfl)) (pe_ix ix_list (pv 0) pe_int (fun _ _ => rfl)) (fun _ _ => rfl)))) pss_nil)
      (pss_cons (ps_asg (pe_op op_add (pe_ix ix_list (pv 0) pe_int (fun _ _ => rfl)) pe_int) (pg_sub (pv 0) pe_int set_list))
      (pss_one (ps_if (pt_cmpR op_ge (pv 2) (pe_op op_pow pe_int pe_int) (nomark _))
          (pss_one (ps_asg (pv 2) (pg_sub (pv 0) pe_int set_list)))
          (pss_cons (ps_set (i := 3) scTake.nd rfl (.inl rfl) (pe_op op_mod (pe_callTy call_int1 (by rfl) mi boot_int (pa_cons
              (pe_op op_add (pe_op op_add (pe_op op_add (pe_op op_mul (pe_ix ix_list (pv 0) pe_int (fun _ _ => rfl)) pe_int) (pe_op op_mul (pe_op op_mod (pe_callTy call_int1 (by rfl) mi boot_int (pa_cons (pv 2) pa_nil)) pe_int) pe_int))
                (pe_op op_mul (pe_ix ix_list (pv 0) pe_int (fun _ _ => rfl)) pe_int)) pe_int) pa_nil)) pe_int))
          (pss_cons (ps_set (i := 3) scTake.nd rfl (.inl rfl) (pe_op op_mod (pe_callTy call_int1 (by rfl) mi boot_int (pa_cons
              (pe_op op_add (pe_op op_add (pe_op op_mul (pv 3) (pv 3)) (pe_op op_mul (pe_ix ix_list (pv 0) pe_int (fun _ _ => rfl)) pe_int)) pe_int) pa_nil)) pe_int))
          (pss_cons (ps_asg (pv 3) (pg_sub (pv 0) pe_int set_list))
          (pss_one (ps_ret (pe_op op_mod (pe_op op_fdiv (pv 3) pe_int) (pv 1)))))))))))) pss_nil)
    (pss_cons (ps_set (i := 4) scTake.nd rfl (.inl rfl) (pe_op op_mod (pe_callTy call_int1 (by rfl) mi boot_int (pa_cons (pe_ix ix_list (pv 0) pe_int (fun _ _ => rfl)) pa_nil)) (pv 1)))
    (pss_cons (ps_asg (pe_op op_fdivW (pe_ix ix_list (pv 0) pe_int (fun _ _ => rfl)) (pv 1)) (pg_sub (pv 0) pe_int set_list))
    (pss_one (ps_ret (pv 4))))), ?_⟩
  -- the ends: whatever stands at a in the form of a source
  have fin : ∀ (H' : Hp) (pl' gr' tu' z : Int), (∀ b, b ≠ a → H' b = H b) → H' a = some (.lst [.ref c, .int pl', .int gr', .int tu']) → 0 ≤ pl' → 0 ≤ z → z < many → Q (.int z) H' := fun H' pl' gr' tu' z e1 e2 h1 h2 h3 =>
    q (.int z) H' (.int z) (fun b o e n => by rw [e1 b (fun y => n (by rw [y]))]; exact e)
      (fun a' ea => by cases ea; exact ⟨c, ns, pl', gr', tu', e2, hc, by rw [e1 c (Ne.symm nac)]; exact hC, h1⟩) (.int z) (hΨ z h2 h3)
  have rdA : SqL K H a [.ref c, .int pl, .int gr, .int tu] := .inl (.inl hA)
  have rdC : SqL K H c (ns.map V.int) := .inl (.inl hC)
  refine ⟨.ref a, rfl, a, _, 2, .int gr, rfl, rfl, rdA, rfl, rfl, _, rfl, ite2 (fun e => ?_) (fun e => ?_)⟩
  · -- a new cell
    refine ⟨.ref a, rfl, a, _, 1, .int pl, rfl, rfl, rdA, rfl, .ref a, rfl, a, _, 0, .ref c, rfl, rfl, rdA, rfl, c, _, rfl, .inl rdC, pl, _, rfl, rfl, _, rfl, ?_⟩
    refine ite2 (fun e2 => ?_) (fun e2 => ?_)
    · have hlt : pl < ((ns.map V.int).length : Nat) := of_decide_eq_true e2
      rw [List.length_map] at hlt
      have hx : (ns.map V.int)[pl.toNat]? = some (.int ns[pl.toNat]) := by
        rw [List.getElem?_map, List.getElem?_eq_getElem (show pl.toNat < ns.length by omega)]
        rfl
      have hx2 : L2.atI (ns.map V.int) pl = some (.int ns[pl.toNat]) := by
        have := atI_nat hx
        rw [show ((pl.toNat : Nat) : Int) = pl by omega] at this
        exact this
      refine ⟨.ref a, rfl, a, _, 0, .ref c, rfl, rfl, rdA, rfl, .ref a, rfl, a, _, 1, .int pl, rfl, rfl, rdA, rfl, c, _, pl, _, rfl, rfl, rdC, hx2, ?_⟩
      generalize ns[pl.toNat] = cv
      refine ⟨.ref a, rfl, a, _, 1, .int pl, rfl, rfl, rdA, rfl, pl, 1, rfl, rfl, .ref a, rfl, a, _, 1, 1, rfl, rfl, hA, rfl, ?_⟩
      refine ⟨.int cv, rfl, 10, 18, rfl, rfl, ⟨by decide, by decide, by decide⟩, cv, _, rfl, rfl, _, rfl, ite2 (fun e3 => ?_) (fun e3 => ?_)⟩
      · refine ⟨.int cv, rfl, .ref a, rfl, a, _, 2, 2, rfl, rfl, upd_same, rfl, ?_⟩
        refine ⟨.ref a, rfl, a, _, 2, .int cv, rfl, rfl, .inl (.inl upd_same), rfl, .inl ⟨cv, rfl, .int many, rfl, cv, many, rfl, rfl, h0, ?_⟩⟩
        refine ⟨.ref a, rfl, a, _, 2, .int cv, rfl, rfl, .inl (.inl upd_same), rfl, .int many, rfl, cv, many, rfl, rfl, ⟨h0, h9⟩, ?_⟩
        refine ⟨.ref a, rfl, a, _, 2, 2, rfl, rfl, upd_same, rfl, ?_⟩
        refine ⟨.int (cv % many), rfl, fin _ (pl + 1) (cv / many) tu _ (fun b hb => ?_) upd_same (by omega) (Int.emod_nonneg _ (by omega)) (Int.emod_lt_of_pos _ h0)⟩
        rw [upd_ne hb, upd_ne hb, upd_ne hb]
      · refine ⟨.ref a, rfl, a, _, 3, .int tu, rfl, rfl, .inl (.inl upd_same), rfl, tu, 69621, rfl, rfl, .inr ⟨by decide, by decide⟩, .int cv, rfl, .inl ⟨cv, rfl, cv, 2147483629, rfl, rfl, (by decide : (0 : Int) < 2147483629), _, 48271, rfl, rfl, .inr ⟨by decide, by decide⟩, _, _, rfl, rfl,
          .ref a, rfl, a, _, 1, .int (pl + 1), rfl, rfl, .inl (.inl upd_same), rfl, _, 7919, rfl, rfl, .inr ⟨by decide, by decide⟩, _, _, rfl, rfl, _, 1, rfl, rfl, .inl ⟨_, rfl, _, 2147483647, rfl, rfl, (by decide : (0 : Int) < 2147483647), ?_⟩⟩⟩
        have m0 : 0 ≤ ((tu * 69621 + cv % 2147483629 * 48271 + (pl + 1) * 7919 + 1) % 2147483647) := Int.emod_nonneg _ (by decide)
        have m1 : ((tu * 69621 + cv % 2147483629 * 48271 + (pl + 1) * 7919 + 1) % 2147483647) < 2147483647 := Int.emod_lt_of_pos _ (by decide)
        refine ⟨_, rfl, _, rfl, ((tu * 69621 + cv % 2147483629 * 48271 + (pl + 1) * 7919 + 1) % 2147483647), _, rfl, rfl, .inl ⟨Int.lt_of_lt_of_le (by decide) m0, Int.lt_trans m1 (by decide)⟩, .ref a, rfl, a, _, 1, .int (pl + 1), rfl, rfl, .inl (.inl upd_same), rfl, _, 104729, rfl, rfl, .inr ⟨by decide, by decide⟩, _, _, rfl, rfl, _, 13, rfl, rfl, .inl ⟨_, rfl, _, 2147483629, rfl, rfl, (by decide : (0 : Int) < 2147483629), ?_⟩⟩
        refine ⟨_, rfl, .ref a, rfl, a, _, 3, 3, rfl, rfl, upd_same, rfl, ?_⟩
        refine ⟨_, rfl, _, 7, rfl, rfl, ⟨by decide, by decide⟩, .int many, rfl, _, many, rfl, rfl, h0, fin _ (pl + 1) gr _ _ (fun b hb => ?_) upd_same (by omega) (Int.emod_nonneg _ (by omega)) (Int.emod_lt_of_pos _ h0)⟩
        rw [upd_ne hb, upd_ne hb]
    · refine ⟨.ref a, rfl, a, _, 1, .int pl, rfl, rfl, rdA, rfl, pl, 1, rfl, rfl, .ref a, rfl, a, _, 1, 1, rfl, rfl, hA, rfl, ?_⟩
      refine ⟨.int 0, rfl, 10, 18, rfl, rfl, ⟨by decide, by decide, by decide⟩, 0, _, rfl, rfl, _, rfl, ite2 (fun e3 => ?_) (fun e3 => ?_)⟩
      · refine ⟨.int 0, rfl, .ref a, rfl, a, _, 2, 2, rfl, rfl, upd_same, rfl, ?_⟩
        refine ⟨.ref a, rfl, a, _, 2, .int 0, rfl, rfl, .inl (.inl upd_same), rfl, .inl ⟨0, rfl, .int many, rfl, 0, many, rfl, rfl, h0, ?_⟩⟩
        refine ⟨.ref a, rfl, a, _, 2, .int 0, rfl, rfl, .inl (.inl upd_same), rfl, .int many, rfl, 0, many, rfl, rfl, ⟨h0, h9⟩, ?_⟩
        refine ⟨.ref a, rfl, a, _, 2, 2, rfl, rfl, upd_same, rfl, ?_⟩
        refine ⟨.int (0 % many), rfl, fin _ (pl + 1) (0 / many) tu _ (fun b hb => ?_) upd_same (by omega) (Int.emod_nonneg _ (by omega)) (Int.emod_lt_of_pos _ h0)⟩
        rw [upd_ne hb, upd_ne hb, upd_ne hb]
      · refine ⟨.ref a, rfl, a, _, 3, .int tu, rfl, rfl, .inl (.inl upd_same), rfl, tu, 69621, rfl, rfl, .inr ⟨by decide, by decide⟩, .int 0, rfl, .inl ⟨0, rfl, 0, 2147483629, rfl, rfl, (by decide : (0 : Int) < 2147483629), _, 48271, rfl, rfl, .inr ⟨by decide, by decide⟩, _, _, rfl, rfl,
          .ref a, rfl, a, _, 1, .int (pl + 1), rfl, rfl, .inl (.inl upd_same), rfl, _, 7919, rfl, rfl, .inr ⟨by decide, by decide⟩, _, _, rfl, rfl, _, 1, rfl, rfl, .inl ⟨_, rfl, _, 2147483647, rfl, rfl, (by decide : (0 : Int) < 2147483647), ?_⟩⟩⟩
        have m0 : 0 ≤ ((tu * 69621 + 0 % 2147483629 * 48271 + (pl + 1) * 7919 + 1) % 2147483647) := Int.emod_nonneg _ (by decide)
        have m1 : ((tu * 69621 + 0 % 2147483629 * 48271 + (pl + 1) * 7919 + 1) % 2147483647) < 2147483647 := Int.emod_lt_of_pos _ (by decide)
        refine ⟨_, rfl, _, rfl, ((tu * 69621 + 0 % 2147483629 * 48271 + (pl + 1) * 7919 + 1) % 2147483647), _, rfl, rfl, .inl ⟨Int.lt_of_lt_of_le (by decide) m0, Int.lt_trans m1 (by decide)⟩, .ref a, rfl, a, _, 1, .int (pl + 1), rfl, rfl, .inl (.inl upd_same), rfl, _, 104729, rfl, rfl, .inr ⟨by decide, by decide⟩, _, _, rfl, rfl, _, 13, rfl, rfl, .inl ⟨_, rfl, _, 2147483629, rfl, rfl, (by decide : (0 : Int) < 2147483629), ?_⟩⟩
        refine ⟨_, rfl, .ref a, rfl, a, _, 3, 3, rfl, rfl, upd_same, rfl, ?_⟩
        refine ⟨_, rfl, _, 7, rfl, rfl, ⟨by decide, by decide⟩, .int many, rfl, _, many, rfl, rfl, h0, fin _ (pl + 1) gr _ _ (fun b hb => ?_) upd_same (by omega) (Int.emod_nonneg _ (by omega)) (Int.emod_lt_of_pos _ h0)⟩
        rw [upd_ne hb, upd_ne hb]
  · refine ⟨.ref a, rfl, a, _, 2, .int gr, rfl, rfl, .inl (.inl hA), rfl, .inl ⟨gr, rfl, .int many, rfl, gr, many, rfl, rfl, h0, ?_⟩⟩
    refine ⟨.ref a, rfl, a, _, 2, .int gr, rfl, rfl, .inl (.inl hA), rfl, .int many, rfl, gr, many, rfl, rfl, ⟨h0, h9⟩, ?_⟩
    refine ⟨.ref a, rfl, a, _, 2, 2, rfl, rfl, hA, rfl, ?_⟩
    refine ⟨.int (gr % many), rfl, fin _ pl (gr / many) tu _ (fun b hb => ?_) upd_same hpl (Int.emod_nonneg _ (by omega)) (Int.emod_lt_of_pos _ h0)⟩
    rw [upd_ne hb]
end
end K01
namespace DL
open PySem PySem.Spec PyProof.Rows L2
theorem atI_in {ds : List D} {v : Int} (h0 : 0 ≤ v) (h1 : v < ds.length) : ∃ d, L2.atI ds v = some d ∧ d ∈ ds := by
  have h2 : v.toNat < ds.length := by omega
  refine ⟨ds[v.toNat], ?_, List.getElem_mem h2⟩
  have := atI_nat (List.getElem?_eq_getElem h2)
  rwa [show ((v.toNat : Nat) : Int) = v by omega] at this
theorem perm_erase {α : Type} : ∀ (l : List α) (i : Nat) (h : i < l.length), (l[i] :: l.eraseIdx i).Perm l
  | a :: l, 0, _ => .refl _
  | a :: l, i + 1, h => by
    have ih := perm_erase l i (by simpa using h)
    refine .trans (.swap a _ _) ?_
    exact .cons a ih
theorem log_small {n : Nat} (h : n ≤ 1000000) : n.log2 < 9000 := by
  by_cases h0 : n = 0
  · subst h0; rw [Nat.log2_zero]; decide
  · have : n.log2 < 20 := (Nat.log2_lt h0).mpr (by omega)
    omega
theorem asc_snoc {ns : List Int} {l v : Int} {k : Nat} (h : ns.Pairwise (· < ·)) (hk : ns[k]? = some l) (hl : k + 1 = ns.length) (hv : l < v) : (ns ++ [v]).Pairwise (· < ·) := by
  rw [List.pairwise_append]
  refine ⟨h, List.pairwise_singleton _ _, fun a ha b hb => ?_⟩
  have hb : b = v := by simpa using hb
  subst hb
  obtain ⟨i, hi, rfl⟩ := List.getElem_of_mem ha
  obtain ⟨hk2, rfl⟩ := List.getElem?_eq_some_iff.mp hk
  by_cases e : i = k
  · subst e; exact hv
  · have := List.pairwise_iff_getElem.mp h i k hi hk2 (by omega)
    omega
theorem ints_of {ys : List D} {C : Int → Prop} (h : ∀ (k : Nat) y, ys[k]? = some y → ∃ t, y = D.int t ∧ C t) : ∃ ts : List Int, ys = ts.map D.int ∧ ∀ t ∈ ts, C t := by
  induction ys with
  | nil => exact ⟨[], rfl, by simp⟩
  | cons y r ih =>
    obtain ⟨t, rfl, c⟩ := h 0 y rfl
    obtain ⟨ts, rfl, c2⟩ := ih fun k z hz => h (k + 1) z (by simpa using hz)
    exact ⟨t :: ts, rfl, by intro u hu; rcases List.mem_cons.mp hu with rfl | hu; exact c; exact c2 u hu⟩
theorem cutD_map {α : Type} (f : α → D) (xs : List α) (lo hi : Option Int) : ∃ ys : List α, cutD (xs.map f) lo hi = ys.map f ∧ (∀ y ∈ ys, y ∈ xs) ∧ ys.length ≤ xs.length := by
  refine ⟨(xs.drop (HT.sIx xs.length 0 lo)).take (HT.sIx xs.length xs.length hi - HT.sIx xs.length 0 lo), ?_, fun y hy => List.mem_of_mem_drop (List.mem_of_mem_take hy), ?_⟩
  · unfold cutD
    rw [List.length_map, List.map_take, List.map_drop]
  · rw [List.length_take, List.length_drop]
    omega
/-- what the drawing source's def promises -/
def spSource (K : PySem.W.Frag) : Sp := fun vs H Q _ => ∃ (a : Addr) (ns : List Int), vs = [.ref a] ∧ SqL K H a (ns.map V.int) ∧ ns.length ≤ 63 ∧
  ∀ H' p c, Same H H' → p ≠ c → H p = none → H' p = some (.lst [.ref c, .int 0, .int 0, .int 1]) → H' c = some (.lst (ns.map V.int)) → Q (.ref p) H'
/-- what law(script) promises: for a list of at most 63 ints the answer is True -/
def spLawS (K : PySem.W.Frag) : Sp := fun vs H Q _ => ∃ (a : Addr) (ns : List Int), vs = [.ref a] ∧ SqL K H a (ns.map V.int) ∧ ns.length ≤ 63 ∧ ∀ H', Q (.bl true) H'
theorem src_rep {K : PySem.W.Frag} {G : Cls} {H1 : Hp} {p c : Addr} {ns : List Int} {v0 : Option V} (n : Nat) (hpc : p ≠ c) (hp : H1 p = some (.lst [.ref c, .int 0, .int 0, .int 1])) (hc : H1 c = some (.lst (ns.map V.int))) :
    Rep K G (some p) H1 (fun b => b = p) (none :: some (.dat .src) :: List.replicate n none) (v0 :: some (.ref p) :: List.replicate n none) H1 (fun b => b = p) := by
  have key : ∀ (i : Nat) (y : EV), (none :: some (.dat .src) :: List.replicate n none : En)[i]? = some (some y) → i = 1 ∧ y = .dat .src := fun i y e => by
    match i with
    | 0 => cases e
    | 1 => cases e; exact ⟨rfl, rfl⟩
    | i + 2 =>
      have e : (List.replicate n none : En)[i]? = some (some y) := e
      rw [List.getElem?_replicate] at e
      split at e <;> cases e
  refine ⟨by simp, fun i d e => ?_, fun i kd es e => ?_, fun i j kd ld ds es q e => ?_, fun a ea => ?_, fun b hb => ?_, fun b hb => ?_, fun _ h => h, fun _ _ e _ => e⟩
  · obtain ⟨rfl, e2⟩ := key i _ e
    cases e2
    exact ⟨.ref p, rfl, .src rfl⟩
  · obtain ⟨_, e2⟩ := key i _ e
    cases e2
  · obtain ⟨_, e2⟩ := key i _ e
    cases e2
  · cases ea
    exact ⟨⟨c, ns, 0, 0, 1, hp, fun z => hpc z.symm, hc, Int.le_refl 0⟩, rfl⟩
  · show H1 b ≠ none
    rw [show b = p from hb, hp]
    exact fun z => nomatch z
  · show H1 b ≠ none
    rw [show b = p from hb, hp]
    exact fun z => nomatch z
theorem src_ends {X : Cx} {G : Cls} {S : Option Addr} {H0 : Hp} {M0 M : Mu} {H : Hp} {E : Ends} (q : ∀ H', E.rt (.bl true) H') : PoOk X G S H0 M0 M H { nx := fun _ => False, rt := fun d => d = .bl true } E :=
  ⟨fun _ _ _ _ _ _ w => w.elim, fun v σ' H' M' d ρ' _ _ rv w => by subst w; rw [rv.bl_]; exact q H', fun _ _ _ _ _ _ w => w.elim, fun _ _ _ _ _ _ w => w.elim⟩
end DL
namespace K01
open PySem PySem.Spec PyProof.Rows L2 DL
local macro_rules | `(tactic| simp_wf) => `(tactic| first
  | refine bd_add ?_ | refine bd_sub ?_ | refine bd_lt ?_ | refine bd_le ?_ | refine bd_gt ?_ | refine bd_ge ?_ | refine bd_eqI ?_ | refine bd_neI ?_
  | refine bd_eqB ?_ | refine bd_neB ?_ | refine bd_eqS ?_ | refine bd_neS ?_
  | refine bd_isN ?_ | refine bd_notN ?_ | refine bd_isB ?_ | refine bd_notB ?_ | refine bd_isNB ?_ | refine bd_notNB ?_
  | refine bd_mod (by first | assumption | decide | omega) ?_
  | refine bd_mul (by first | assumption | exact .inl ⟨by decide, by decide⟩ | exact .inr ⟨by decide, by decide⟩ | exact .inl ⟨by omega, by omega⟩ | exact .inr ⟨by omega, by omega⟩) ?_
  | refine bd_fdiv (by first | assumption | exact ⟨by decide, by decide⟩) ?_
  | refine bd_pow (by first | assumption | exact ⟨by decide, by decide, by decide⟩) ?_
  | refine bd_shl (by first | assumption | exact ⟨by omega, by omega, by omega⟩) ?_
  | refine bd_shr (by first | assumption | decide | omega) ?_
  | refine bd_andI ?_ | refine bd_orI ?_ | refine bd_xorI ?_ | refine ud_neg ?_
  | refine cd_lenT ?_ | refine cd_lenL ?_ | refine cd_tupleL ?_ | refine cd_tupleT ?_ | refine cd_int ?_ | refine cd_max2 rfl ?_ | refine cd_min2 rfl ?_
  | refine cf_list (.inl rfl) ?_ | refine cf_list (.inr rfl) ?_
  | refine ix_tupD (by first | rfl | assumption) ?_ | refine ix_lstD (by first | rfl | assumption) ?_)
section
variable {P : Program} {w : World} {K : PySem.W.Frag} {mg : Str → Option Value} {base : Heap} {G : DL.Cls}
def spL_pick : DSpec := fun ds Ψ => ∃ d es, ds = [.src, d] ∧ SeqD d es ∧ es ≠ [] ∧ es.length ≤ 1000000 ∧ ∀ e ∈ es, Ψ e
abbrev sL_pick : Stmt := topS 10
abbrev nL_pick : List Str := ["_law_source_here", "_law_things"]
theorem scL_pick : FnScope nL_pick ["_law_source_here", "_law_things"] (defScope sL_pick) := ⟨rfl, rfl, rfl, by decide +kernel, rfl, by decide +kernel, by decide +kernel⟩
theorem ok_L_pick {k : Nat} (ml : mg "len" = none) (FL_take : Fd P w K mg base G k "_law_take" 2 spTake) : BodyOk P w K mg base G k nL_pick "_law_pick" sL_pick spL_pick := by
  intro f cdv A outer s H E hr ds Ψ h
  have nd := scL_pick.nd
  obtain ⟨d, es, rfl, hd, hne, hl, h⟩ := h
  have hpos : 0 < es.length := List.length_pos_iff.mpr hne
  refine wss_one ?_
  refine ws_ret ?_
  refine esub ?_
  refine ev 1 ?_
  refine ecall FL_take ?_
  refine acons ?_
  refine ev 0 ?_
  refine acons ?_
  refine ecB bt_len ?_
  refine acons ?_
  refine ev 1 ?_
  refine wa_nil ?_
  rcases hd with rfl | rfl
  · simp_wf
    refine wa_nil ?_
    refine ⟨_, rfl, by omega, log_small (by omega), fun v h0 h1 => ?_⟩
    obtain ⟨e, he, hm⟩ := atI_in h0 h1
    exact ix_lstD he (h e hm)
  · simp_wf
    refine wa_nil ?_
    refine ⟨_, rfl, by omega, log_small (by omega), fun v h0 h1 => ?_⟩
    obtain ⟨e, he, hm⟩ := atI_in h0 h1
    exact ix_tupD he (h e hm)
abbrev sL_source : Stmt := topS 8
theorem scL_source : FnScope ["_law_script"] ["_law_script"] (defScope sL_source) := ⟨rfl, rfl, rfl, by decide +kernel, rfl, by decide +kernel, by decide +kernel⟩
theorem ok_source {f : Addr} {fd : FuncData} {k : Nat} {q : Str} (F : Fun K q q sL_source f fd) (mL : mg "list" = none) : FnOk P w K mg base CX0 (k + 1) f fd ["_law_script"] (spSource K) := by
  refine F.ok scL_source (fun vs H Q E h => ?_) (fun cdv A outer s H vs Q E hr h => ?_)
  · obtain ⟨a, ns, rfl, _⟩ := h
    rfl
  obtain ⟨a, ns, rfl, hS, hl, q⟩ := h
  refine ⟨_, pss_one (ps_ret (pe_lst (pa_cons (pe_callTy call_list_of (by rfl) mL bt_list (pa_cons (pv 0) pa_nil)) (pa_cons pe_int (pa_cons pe_int (pa_cons pe_int pa_nil)))))), ?_⟩
  refine ⟨.ref a, rfl, a, _, rfl, .inl hS, fun c hc => ⟨by show 4 ≤ sizeLine; exact sz_le (by decide), fun p hp => ?_⟩⟩
  have hpc : p ≠ c := fun z => by rw [z, upd_same] at hp; cases hp
  refine q _ p c (fun b o e => ?_) hpc ?_ upd_same ?_
  · rw [upd_ne (ne_of_none (same_upd hc b o e) hp)]
    exact same_upd hc b o e
  · rw [upd_ne hpc] at hp
    exact hp
  · rw [upd_ne (Ne.symm hpc), upd_same]
end
end K01

namespace K01
open PySem PySem.Spec PyProof.Rows L2 DL
theorem flatMap_len' {α β γ : Type} (L : List α) (M : List β) (g : α → β → γ) : (L.flatMap fun x => M.map (g x)).length = L.length * M.length := by
  induction L with
  | nil => simp
  | cons a r ih => rw [List.flatMap_cons, List.length_append, ih, List.length_map, List.length_cons, Nat.succ_mul]; omega
local macro_rules | `(tactic| simp_wf) => `(tactic| first
  | refine bd_add ?_ | refine bd_sub ?_ | refine bd_lt ?_ | refine bd_le ?_ | refine bd_gt ?_ | refine bd_ge ?_ | refine bd_eqI ?_ | refine bd_neI ?_
  | refine bd_eqB ?_ | refine bd_neB ?_ | refine bd_eqS ?_ | refine bd_neS ?_
  | refine bd_isN ?_ | refine bd_notN ?_ | refine bd_isB ?_ | refine bd_notB ?_ | refine bd_isNB ?_ | refine bd_notNB ?_
  | refine bd_mod (by first | assumption | decide | omega) ?_
  | refine bd_mul (by first | assumption | exact .inl ⟨by decide, by decide⟩ | exact .inr ⟨by decide, by decide⟩ | exact .inl ⟨by omega, by omega⟩ | exact .inr ⟨by omega, by omega⟩) ?_
  | refine bd_fdiv (by first | assumption | exact ⟨by decide, by decide⟩) ?_
  | refine bd_pow (by first | assumption | exact ⟨by decide, by decide, by decide⟩) ?_
  | refine bd_shl (by first | assumption | exact ⟨by omega, by omega, by omega⟩) ?_
  | refine bd_shr (by first | assumption | decide | omega) ?_
  | refine bd_andI ?_ | refine bd_orI ?_ | refine bd_xorI ?_ | refine ud_neg ?_
  | refine cd_lenT ?_ | refine cd_lenL ?_ | refine cd_tupleL ?_ | refine cd_tupleT ?_ | refine cd_int ?_ | refine cd_max2 rfl ?_ | refine cd_min2 rfl ?_
  | refine cf_list (.inl rfl) ?_ | refine cf_list (.inr rfl) ?_
  | refine ix_tupD (by first | rfl | assumption) ?_ | refine ix_lstD (by first | rfl | assumption) ?_)
section
variable {P : Program} {w : World} {K : PySem.W.Frag} {mg : Str → Option Value} {base : Heap} {G : DL.Cls}
def spL_mixed : DSpec := fun ds Ψ => ∃ d es, ds = [.src, d] ∧ SeqD d es ∧ es.length ≤ 1000000 ∧ ∀ ys : List D, ys.Perm es → Ψ (.lst ys)
abbrev sL_mixed : Stmt := topS 11
abbrev nL_mixed : List Str := ["_law_source_here", "_law_things", "_law_rest", "_law_told", "_law_k"]
theorem scL_mixed : FnScope nL_mixed ["_law_source_here", "_law_things"] (defScope sL_mixed) := ⟨rfl, rfl, rfl, by decide +kernel, rfl, by decide +kernel, by decide +kernel⟩
theorem ok_L_mixed {k : Nat} (ml : mg "len" = none) (mL : mg "list" = none) (mr : mg "range" = none) (FL_take : Fd P w K mg base G k "_law_take" 2 spTake) : BodyOk P w K mg base G k nL_mixed "_law_mixed" sL_mixed spL_mixed := by
  intro f cdv A outer s H E hr ds Ψ h
  have nd := scL_mixed.nd
  obtain ⟨d, es, rfl, hd, hl, h⟩ := h
  refine wss_cons ?_
  refine sparO 2 3 ?_
  refine fcT bt_list ?_
  refine acons ?_
  refine ev 1 ?_
  refine wa_nil ?_
  refine cf_list hd ?_
  refine wss_cons ?_
  refine sfor ?_
  refine irange ?_
  refine acons ?_
  refine ecB bt_len ?_
  refine acons ?_
  refine ev 1 ?_
  refine wa_nil ?_
  have key : ∀ Φ : D → Prop, Φ (.int es.length) → CallD (CtD P w K mg base nL_mixed "_law_mixed" sL_mixed f cdv A outer s H E) G (.builtin "len") [d] Φ := fun Φ hq => by
    rcases hd with rfl | rfl
    · exact cd_lenL hq
    · exact cd_lenT hq
  refine key _ ?_
  refine wa_nil ?_
  refine ⟨_, rfl, by omega, by omega, ?_⟩
  refine for_typed (List.range es.length) (fun i => .int (0 + (i : Nat))) (fun pre ρ => ∃ R T y4, ρ = [some (.dat .src), some (.dat d), some (.own R), some (.own T), y4] ∧ R.length + pre.length = es.length ∧ (T ++ R).Perm es) (by rw [Int.toNat_natCast]; rfl) ?_ (fun pre x post ρ2 hL hI => ?_) (fun ρ2 hI => ?_)
  · exact ⟨es, [], _, rfl, rfl, .refl _⟩
  · obtain ⟨R, T, y4, rfl, hR, hp⟩ := hI
    have hlen : pre.length < es.length := by
      have := congrArg List.length hL
      simp at this
      omega
    have hTR := hp.length_eq
    rw [List.length_append] at hTR
    refine gname 4 ?_
    refine wss_one ?_
    refine sexpr ?_
    refine eapp 3 ?_
    refine acons ?_
    refine epopAt 2 ?_
    refine acons ?_
    refine ecall FL_take ?_
    refine acons ?_
    refine ev 0 ?_
    refine acons ?_
    refine elenO 2 ?_
    refine wa_nil ?_
    refine ⟨_, rfl, by omega, log_small (by omega), fun v h0 h1 => ?_⟩
    refine wa_nil ?_
    have hv : v.toNat < R.length := by omega
    refine ⟨v.toNat, R[v.toNat], R, by rw [Int.toNat_of_nonneg h0], rfl, by omega, List.getElem?_eq_getElem hv, ?_⟩
    refine wa_nil ?_
    refine ⟨_, _, rfl, rfl, sz_lt (by omega), ?_⟩
    refine ⟨_, _, _, rfl, ?_, ?_⟩
    · rw [List.length_eraseIdx_of_lt hv, List.length_append, List.length_singleton]; omega
    · refine .trans ?_ hp
      rw [List.append_assoc]
      refine .append_left T ?_
      exact perm_erase R v.toNat hv
  · obtain ⟨R, T, y4, rfl, hR, hp⟩ := hI
    rw [List.length_range] at hR
    have : R = [] := List.length_eq_zero_iff.mp (by omega)
    subst this
    rw [List.append_nil] at hp
    refine sfreeze 3 ?_
    refine wss_one ?_
    refine ws_ret ?_
    refine ev 3 ?_
    exact h T hp
def spL_pool : DSpec := fun ds Ψ => ∃ m : Int, ds = [.src, .int m] ∧ 1 ≤ m ∧ m ≤ 1000 ∧ ∀ ns : List Int, ns.length = m.toNat → ns.Pairwise (· < ·) → (∀ n ∈ ns, 0 ≤ n) → Ψ (.lst (ns.map D.int))
abbrev sL_pool : Stmt := topS 12
abbrev nL_pool : List Str := ["_law_source_here", "_law_many", "_law_told", "_law_k"]
theorem scL_pool : FnScope nL_pool ["_law_source_here", "_law_many"] (defScope sL_pool) := ⟨rfl, rfl, rfl, by decide +kernel, rfl, by decide +kernel, by decide +kernel⟩
theorem ok_L_pool {k : Nat} (mr : mg "range" = none) (FL_take : Fd P w K mg base G k "_law_take" 2 spTake) (FL_pick : Fd P w K mg base G k "_law_pick" 2 spL_pick) : BodyOk P w K mg base G k nL_pool "_law_pool" sL_pool spL_pool := by
  intro f cdv A outer s H E hr ds Ψ h
  have nd := scL_pool.nd
  obtain ⟨m, rfl, h1, h2, h⟩ := h
  refine wss_cons ?_
  refine sown 2 ?_
  refine wf_lst ?_
  refine acons ?_
  refine ecall FL_pick ?_
  refine acons ?_
  refine ev 0 ?_
  refine acons ?_
  refine we_of_wf (wf_lst ?_)
  refine acons ?_
  refine we_int ?_
  refine acons ?_
  refine we_int ?_
  refine acons ?_
  refine we_int ?_
  refine acons ?_
  refine ecall FL_take ?_
  refine acons ?_
  refine ev 0 ?_
  refine acons ?_
  refine we_bin ?_
  refine we_int ?_
  refine we_int ?_
  simp_wf
  refine wa_nil ?_
  refine ⟨_, rfl, by decide, by decide +kernel, fun t t0 t1 => ?_⟩
  refine wa_nil ?_
  refine ⟨sz_le (Nat.le_of_ble_eq_true rfl), ?_⟩
  refine wa_nil ?_
  refine ⟨_, _, rfl, .inl rfl, by simp, by simp, fun e he => ?_⟩
  obtain ⟨e0, rfl, he0⟩ : ∃ e0 : Int, e = .int e0 ∧ 0 ≤ e0 := by
    simp at he
    rcases he with rfl | rfl | rfl
    · exact ⟨_, rfl, by omega⟩
    · exact ⟨_, rfl, by omega⟩
    · exact ⟨_, rfl, by omega⟩
  refine wa_nil ?_
  refine ⟨sz_le (Nat.le_of_ble_eq_true rfl), ?_⟩
  refine wss_cons ?_
  refine sfor ?_
  refine irange ?_
  refine acons ?_
  refine we_bin ?_
  refine ev 1 ?_
  refine we_int ?_
  simp_wf
  refine wa_nil ?_
  refine ⟨_, rfl, by omega, by omega, ?_⟩
  refine for_typed (List.range (m - 1).toNat) (fun i => .int (0 + (i : Nat))) (fun pre ρ => ∃ (ns : List Int) (y3 : Option EV), ρ = [some (.dat .src), some (.dat (.int m)), some (.own (ns.map D.int)), y3] ∧ ns.length = pre.length + 1 ∧ ns.Pairwise (· < ·) ∧ ∀ n ∈ ns, 0 ≤ n) rfl ?_ (fun pre x post ρ2 hL hI => ?_) (fun ρ2 hI => ?_)
  · exact ⟨[e0], _, rfl, rfl, List.pairwise_singleton _ _, by simpa using he0⟩
  · obtain ⟨ns, y3, rfl, hns, hasc, hpos⟩ := hI
    have hx : x = pre.length := by
      have e := congrArg (fun l => l[pre.length]?) hL
      simp at e
      have := List.getElem?_eq_some_iff.mp e
      obtain ⟨_, h⟩ := this
      simpa using h.symm
    have hlen : pre.length < (m - 1).toNat := by
      have := congrArg List.length hL
      simp at this
      omega
    have hkl : pre.length < ns.length := by omega
    refine gname 3 ?_
    refine wss_one ?_
    refine sexpr ?_
    refine eapp 2 ?_
    refine acons ?_
    refine we_bin ?_
    refine we_bin ?_
    refine esubO 2 ?_
    refine ev 3 ?_
    refine ⟨_, .int ns[pre.length], _, rfl, rfl, ?_, ?_⟩
    · rw [hx, Int.zero_add]
      refine atI_nat ?_
      rw [List.getElem?_map, List.getElem?_eq_getElem hkl]
      rfl
    refine we_int ?_
    simp_wf
    refine ecall FL_pick ?_
    refine acons ?_
    refine ev 0 ?_
    refine acons ?_
    refine we_of_wf (wf_lst ?_)
    refine acons ?_
    refine we_int ?_
    refine acons ?_
    refine we_int ?_
    refine acons ?_
    refine we_int ?_
    refine acons ?_
    refine ecall FL_take ?_
    refine acons ?_
    refine ev 0 ?_
    refine acons ?_
    refine we_bin ?_
    refine we_int ?_
    refine we_int ?_
    simp_wf
    refine wa_nil ?_
    refine ⟨_, rfl, by decide, by decide +kernel, fun t t0 t1 => ?_⟩
    refine wa_nil ?_
    refine ⟨sz_le (Nat.le_of_ble_eq_true rfl), ?_⟩
    refine wa_nil ?_
    refine ⟨_, _, rfl, .inl rfl, by simp, by simp, fun e he => ?_⟩
    obtain ⟨e1, rfl, he1⟩ : ∃ e0 : Int, e = .int e0 ∧ 0 ≤ e0 := by
      simp at he
      rcases he with rfl | rfl | rfl
      · exact ⟨_, rfl, by omega⟩
      · exact ⟨_, rfl, by omega⟩
      · exact ⟨_, rfl, by omega⟩
    simp_wf
    refine wa_nil ?_
    refine ⟨_, _, rfl, rfl, sz_lt (by rw [List.length_map]; omega), ?_⟩
    have h0 := hpos _ (List.getElem_mem hkl)
    refine ⟨ns ++ [ns[pre.length] + 1 + e1], _, by rw [List.map_append]; rfl, by rw [List.length_append, List.length_append, hns]; rfl, ?_, ?_⟩
    · exact asc_snoc hasc (List.getElem?_eq_getElem hkl) (by omega) (by omega)
    · intro n hn
      rcases List.mem_append.mp hn with hn | hn
      · exact hpos n hn
      · have : n = ns[pre.length] + 1 + e1 := by simpa using hn
        omega
  · obtain ⟨ns, y3, rfl, hns, hasc, hpos⟩ := hI
    rw [List.length_range] at hns
    refine sfreeze 2 ?_
    refine wss_one ?_
    refine ws_ret ?_
    refine ev 2 ?_
    exact h ns (by omega) hasc hpos
def spL_longer : DSpec := fun ds Ψ => ∃ (L : List (List Int)) (ns : List Int), ds = [.lst (L.map tupI), .lst (ns.map D.int)] ∧ L.length * ns.length ≤ 300000 ∧ ns.length ≤ 300000 ∧ L.length ≤ 300000 ∧ (∀ l ∈ L, l.length ≤ 3) ∧ Ψ (.lst ((L.flatMap fun l => ns.map fun x => l ++ [x]).map tupI))
abbrev sL_longer : Stmt := topS 13
abbrev nL_longer : List Str := ["_law_told", "_law_worths", "_law_longer_here", "_law_left", "_law_worth"]
theorem scL_longer : FnScope nL_longer ["_law_told", "_law_worths"] (defScope sL_longer) := ⟨rfl, rfl, rfl, by decide +kernel, rfl, by decide +kernel, by decide +kernel⟩
theorem ok_L_longer {k : Nat} : BodyOk P w K mg base G k nL_longer "_law_longer" sL_longer spL_longer := by
  intro f cdv A outer s H E hr ds Ψ h
  have nd := scL_longer.nd
  obtain ⟨L, ns, rfl, hz, hz1, hz2, hL3, h⟩ := h
  refine wss_cons ?_
  refine sown 2 ?_
  refine wf_lst ?_
  refine wa_nil ?_
  refine ⟨sz_le (Nat.le_of_ble_eq_true rfl), ?_⟩
  refine wss_cons ?_
  refine sfor ?_
  refine wi_seq ?_
  refine ev 0 ?_
  refine ⟨_, .inl rfl, fun hz => ?_⟩
  refine for_typed L tupI (fun pre ρ => ∃ y3 y4, ρ = [some (.dat (.lst (L.map tupI))), some (.dat (.lst (ns.map D.int))), some (.own ((pre.flatMap fun l => ns.map fun x => l ++ [x]).map tupI)), y3, y4]) rfl ?_ (fun pre x post ρ2 hL hI => ?_) (fun ρ2 hI => ?_)
  · exact ⟨_, _, rfl⟩
  · obtain ⟨y3, y4, rfl⟩ := hI
    have hx3 := hL3 x (by rw [hL]; simp)
    refine gname 3 ?_
    refine wss_one ?_
    refine sexpr ?_
    refine eext 2 ?_
    refine acons ?_
    refine we_of_wf (fcomp [("_law_worth", 4)] ?_)
    refine wi_seq ?_
    refine ev 1 ?_
    refine ⟨_, .inl rfl, fun hz => ?_⟩
    refine lcask_map ns D.int (fun y => tupI (x ++ [y])) rfl (sz_le (by omega)) (fun k y hy s H C cl fp => ?_) ?_
    · refine gname 4 ?_
      intro s H C cl fp
      refine we_bin ?_
      refine ev 3 ?_
      refine we_tup ?_
      refine acons ?_
      refine ev 4 ?_
      refine wa_nil ?_
      refine ⟨sz_le (Nat.le_of_ble_eq_true rfl), ?_⟩
      refine bd_addT (sz_le (by simp; omega)) ?_
      show D.tup _ = D.tup _
      rw [List.map_append]
      rfl
    refine wa_nil ?_
    refine ⟨_, _, rfl, rfl, ?_, ?_⟩
    · refine sz_le ?_
      rw [List.length_map, List.length_map, flatMap_len']
      have : (pre ++ [x]).length ≤ L.length := by rw [hL]; simp
      have h2 := Nat.mul_le_mul_right ns.length this
      rw [List.length_append, List.length_singleton, Nat.add_mul, Nat.one_mul] at h2
      omega
    · exact ⟨_, _, by rw [List.flatMap_append, List.map_append, List.flatMap_singleton, List.map_map]; rfl⟩
  · obtain ⟨y3, y4, rfl⟩ := hI
    refine sfreeze 2 ?_
    refine wss_one ?_
    refine ws_ret ?_
    refine ev 2 ?_
    exact h
end
end K01

namespace K01
open PySem PySem.Spec PyProof.Rows L2 DL
/-- neighbours unlike: each once -/
def ded {α : Type} [DecidableEq α] : Option α → List α → List α
  | _, [] => []
  | prev, x :: r => if prev = some x then ded (some x) r else x :: ded (some x) r
def ndp {α : Type} [DecidableEq α] [Inhabited α] (L : List α) (x : α × Nat) : Bool := decide (x.2 = 0) || decide (L.getD (x.2 - 1) default ≠ x.1)
theorem ded_zip {α : Type} [DecidableEq α] [Inhabited α] (L0 : List α) : ∀ (L pre : List α), L0 = pre ++ L → ((L.zipIdx pre.length).filter (ndp L0)).map (·.1) = ded pre.getLast? L
  | [], pre, _ => by simp [ded]
  | x :: r, pre, e => by
    have ih := ded_zip L0 r (pre ++ [x]) (by rw [e]; simp)
    rw [List.length_append, List.length_singleton] at ih
    rw [List.zipIdx_cons, List.filter_cons]
    unfold ded
    have key : ndp L0 (x, pre.length) = decide (pre.getLast? ≠ some x) := by
      unfold ndp
      cases hp : pre.reverse with
      | nil =>
        have : pre = [] := by simpa using hp
        subst this
        simp
      | cons y ys =>
        have e2 : pre = ys.reverse ++ [y] := by
          have := congrArg List.reverse hp
          simpa using this
        subst e2
        have g : L0.getD ((ys.reverse ++ [y]).length - 1) default = y := by
          rw [e]
          simp [List.getD, List.getElem?_append]
        simp only [g]
        simp
    rw [key]
    have gl : (pre ++ [x]).getLast? = some x := by simp
    rw [gl] at ih
    by_cases h : pre.getLast? = some x
    · simp only [h, ne_eq, not_true, decide_false, if_true]
      simpa using ih
    · simp only [h, ne_eq, not_false_eq_true, decide_true, if_true, if_false, List.map_cons]
      rw [ih]
/-- kinds of things that are sorted -/
structure SK {α : Type} [DecidableEq α] (f : α → D) (lt : α → α → Bool) : Prop where
  srt : ∀ {X : Cx} {G : Cls} (L : List α), X.A.units + 70 < cLine → ∀ {Ψ : List D → Prop}, (∀ out : List α, SrtO.Srtd lt out → out.Perm L → Ψ (out.map f)) → CallF X G (.builtin "sorted") [.lst (L.map f)] Ψ
  eq : ∀ x y, (f x).eqb (f y) = decide (x = y)
  ok : ∀ x, (f x).okn 2
  tot : ∀ x y, lt x y = false → lt y x = false → x = y
  irr : ∀ x, lt x x = false
section
variable {α : Type} [DecidableEq α] {f : α → D} {lt : α → α → Bool}
theorem ded_strict (K : SK f lt) : ∀ (L : List α) (prev : Option α), L.Pairwise (fun x y => lt y x = false) → (∀ y, prev = some y → ∀ x ∈ L, lt x y = false) →
    (ded prev L).Pairwise (fun x y => lt x y = true) ∧ (∀ y, prev = some y → ∀ x ∈ ded prev L, lt y x = true) ∧ ∀ x, x ∈ ded prev L ↔ x ∈ L ∧ prev ≠ some x
  | [], prev, _, _ => by simp [ded]
  | x :: r, prev, hs, hp => by
    obtain ⟨h1, h2⟩ := List.pairwise_cons.mp hs
    obtain ⟨i1, i2, i3⟩ := ded_strict K r (some x) h2 (fun y e z hz => by cases e; exact h1 z hz)
    have tr : ∀ y z, prev = some y → y ≠ x → z ∈ x :: r → z ≠ y → lt y z = true := fun y z e n hz nz => by
      cases q : lt y z with
      | true => rfl
      | false => exact absurd (K.tot z y (hp y e z hz) q) nz
    unfold ded
    by_cases e : prev = some x
    · rw [if_pos e]
      refine ⟨i1, fun y ey z hz => ?_, fun z => ?_⟩
      · rw [e] at ey; cases ey
        exact i2 x rfl z hz
      · rw [i3 z, e]
        constructor
        · rintro ⟨a, b⟩; exact ⟨List.mem_cons_of_mem _ a, b⟩
        · rintro ⟨a, b⟩
          rcases List.mem_cons.mp a with a | a
          · rw [a] at b; exact absurd rfl b
          · exact ⟨a, b⟩
    · rw [if_neg e]
      have nb : ∀ y, prev = some y → y ∉ ded (some x) r := fun y ey hy => by
        obtain ⟨a, b⟩ := (i3 y).mp hy
        have ne : y ≠ x := fun w => e (by rw [ey, w])
        have q1 := hp y ey x List.mem_cons_self
        have q2 := h1 y a
        exact ne (K.tot y x q2 q1)
      refine ⟨List.pairwise_cons.mpr ⟨fun z hz => i2 x rfl z hz, i1⟩, fun y ey z hz => ?_, fun z => ?_⟩
      · have ne : y ≠ x := fun w => e (by rw [ey, w])
        rcases List.mem_cons.mp hz with rfl | hz'
        · exact tr y z ey ne List.mem_cons_self fun w => ne w.symm
        · exact tr y z ey ne (List.mem_cons_of_mem _ ((i3 z).mp hz').1) fun w => nb y ey (w ▸ hz')
      · rw [List.mem_cons, i3 z, List.mem_cons]
        constructor
        · rintro (rfl | ⟨a, b⟩)
          · exact ⟨.inl rfl, e⟩
          · refine ⟨.inr a, fun w => ?_⟩
            exact nb z w ((i3 z).mpr ⟨a, b⟩)
        · rintro ⟨a | a, b⟩
          · exact .inl a
          · by_cases w : x = z
            · exact .inl w.symm
            · exact .inr ⟨a, fun w2 => w (Option.some.inj w2)⟩
end
def ltI (x y : Int) : Bool := decide (x < y)
theorem skI : SK D.int ltI where
  srt L _ _ h := cf_sortedI rfl (h _ (by
    have := List.pairwise_mergeSort (le := fun (a b : Int) => decide (a ≤ b)) (fun a b c h1 h2 => by simp at *; omega) (fun a b => by simp; omega) L
    exact this.imp fun {a b} h => by
      have : a ≤ b := by simpa using h
      exact decide_eq_false (by omega)) (List.mergeSort_perm _ _))
  eq := eqb_int
  ok _ := okn_int _ _
  tot x y a b := by
    have := of_decide_eq_false a
    have := of_decide_eq_false b
    omega
  irr x := decide_eq_false (by omega)
theorem skP : SK pairI DL.ltP where
  srt L hu _ h := cf_sortedP L hu h
  eq := pairI_eqb
  ok := pairI_okn 0
  tot x y a b := by
    unfold DL.ltP at a b
    by_cases e : x.1 = y.1
    · rw [if_pos e] at a
      rw [if_pos e.symm] at b
      exact Prod.ext e (ltL_eq _ _ a b)
    · rw [if_neg e] at a
      rw [if_neg fun z => e z.symm] at b
      have := of_decide_eq_false a
      have := of_decide_eq_false b
      omega
  irr x := by
    cases q : DL.ltP x x with
    | false => rfl
    | true => exact absurd (swo_ltP.asym x x q) (by rw [q]; decide)
theorem zip_range {α : Type} [Inhabited α] (l : List α) : l.zipIdx = (List.range l.length).map fun i => (l.getD i default, i) := by
  apply List.ext_getElem?
  intro i
  rw [List.getElem?_zipIdx, List.getElem?_map]
  by_cases hi : i < l.length
  · rw [List.getElem?_range hi, List.getElem?_eq_getElem hi]
    simp [List.getD, hi]
  · rw [List.getElem?_eq_none (by omega), List.getElem?_eq_none (by simpa using hi)]
    rfl
theorem atI_M {α : Type} [Inhabited α] {f : α → D} {L : List α} {i : Nat} (h : i < L.length) : L2.atI (L.map f) (i : Int) = some (f (L.getD i default)) := by
  refine atI_nat ?_
  rw [List.getElem?_map, List.getElem?_eq_getElem h]
  simp [List.getD, h]
local macro_rules | `(tactic| simp_wf) => `(tactic| first
  | refine bd_add ?_ | refine bd_sub ?_ | refine bd_lt ?_ | refine bd_le ?_ | refine bd_gt ?_ | refine bd_ge ?_ | refine bd_eqI ?_ | refine bd_neI ?_
  | refine bd_eqB ?_ | refine bd_neB ?_ | refine bd_eqS ?_ | refine bd_neS ?_
  | refine bd_isN ?_ | refine bd_notN ?_ | refine bd_isB ?_ | refine bd_notB ?_ | refine bd_isNB ?_ | refine bd_notNB ?_
  | refine bd_mod (by first | assumption | decide | omega) ?_
  | refine bd_mul (by first | assumption | exact .inl ⟨by decide, by decide⟩ | exact .inr ⟨by decide, by decide⟩ | exact .inl ⟨by omega, by omega⟩ | exact .inr ⟨by omega, by omega⟩) ?_
  | refine bd_fdiv (by first | assumption | exact ⟨by decide, by decide⟩) ?_
  | refine bd_pow (by first | assumption | exact ⟨by decide, by decide, by decide⟩) ?_
  | refine bd_shl (by first | assumption | exact ⟨by omega, by omega, by omega⟩) ?_
  | refine bd_shr (by first | assumption | decide | omega) ?_
  | refine bd_andI ?_ | refine bd_orI ?_ | refine bd_xorI ?_ | refine ud_neg ?_
  | refine cd_lenT ?_ | refine cd_lenL ?_ | refine cd_tupleL ?_ | refine cd_tupleT ?_ | refine cd_int ?_ | refine cd_max2 rfl ?_ | refine cd_min2 rfl ?_
  | refine cf_list (.inl rfl) ?_ | refine cf_list (.inr rfl) ?_
  | refine ix_tupD (by first | rfl | assumption) ?_ | refine ix_lstD (by first | rfl | assumption) ?_)
section
variable {P : Program} {w : World} {K : PySem.W.Frag} {mg : Str → Option Value} {base : Heap} {G : DL.Cls}
def spSort {α : Type} [DecidableEq α] (f : α → D) (lt : α → α → Bool) (g : List D → D) : DSpec := fun ds Ψ => ∃ L : List α, ds = [.lst (L.map f)] ∧ L.length ≤ 1000000 ∧ ∀ out : List α, out.Pairwise (fun x y => lt x y = true) → (∀ x, x ∈ out ↔ x ∈ L) → out.length ≤ L.length → Ψ (g (out.map f))
abbrev ssorted_things : Stmt := topS 1
abbrev nsorted_things : List Str := ["things", "listed", "at", "thing"]
theorem scsorted_things : FnScope nsorted_things ["things"] (defScope ssorted_things) := ⟨rfl, rfl, rfl, by decide +kernel, rfl, by decide +kernel, by decide +kernel⟩
theorem ded_len {α : Type} [DecidableEq α] : ∀ (L : List α) (p : Option α), (ded p L).length ≤ L.length
  | [], _ => Nat.le_refl _
  | x :: r, p => by
    have := ded_len r (some x)
    unfold ded
    split <;> simp <;> omega
theorem ok_sorted_things {α : Type} [DecidableEq α] [Inhabited α] {f : α → D} {lt : α → α → Bool} {k : Nat} (S : SK f lt) (ms : mg "sorted" = none) (me : mg "enumerate" = none) (mt : mg "tuple" = none) : BodyOk P w K mg base G k nsorted_things "sorted_things" ssorted_things (spSort f lt D.tup) := by
  intro fa cdv A outer s H E hr ds Ψ h
  have nd := scsorted_things.nd
  have u64 := Room.u64 hr
  have u70 := Room.u70 hr
  obtain ⟨L0, rfl, hl, h⟩ := h
  refine wss_cons ?_
  refine sasg 1 ?_
  refine we_of_wf (fcB bt_sorted ?_)
  refine acons ?_
  refine ev 0 ?_
  refine wa_nil ?_
  refine S.srt L0 u70 fun L hs hp => ?_
  have hz : L.length ≤ 1000000 := by rw [hp.length_eq]; exact hl
  have hd := ded_strict S L none hs (by simp)
  have hf : (L.zipIdx.filter (ndp L)).map (·.1) = ded none L := ded_zip L L [] rfl
  refine wss_one ?_
  refine ws_ret ?_
  refine ecT bt_tuple ?_
  refine acons ?_
  refine we_of_wf (fcomp [("at", 2), ("thing", 3)] ?_)
  refine ienumL ?_
  refine acons ?_
  refine ev 1 ?_
  refine wa_nil ?_
  refine ⟨_, rfl, ?_⟩
  refine lcask_filt (L := L.zipIdx) (fun p => .tup [.int (p.2 : Nat), f p.1]) (fun p => f p.1) (ndp L) (enumD_map _ _) (sz_le (by rw [List.length_zipIdx]; exact hz)) (fun k x hx s H C cl fp => ?_) ?_
  · have hx2 : x.2 < L.length ∧ x.1 = L.getD x.2 default := by
      rw [zip_range, List.getElem?_map] at hx
      cases q : (List.range L.length)[k]? with
      | none => rw [q] at hx; cases hx
      | some i =>
        rw [q] at hx
        cases hx
        have := List.mem_range.mp (List.mem_of_getElem? q)
        exact ⟨this, rfl⟩
    obtain ⟨v, i⟩ := x
    obtain ⟨hi, hv⟩ := hx2
    refine gtup ?_
    refine gcons ?_
    refine gname 2 ?_
    refine gcons ?_
    refine gname 3 ?_
    refine wgs_nil ?_
    intro s H C cl fp
    refine wt_of_ww (ww_or ?_)
    refine tcmp ?_
    refine ev 2 ?_
    refine we_int ?_
    simp_wf
    refine ⟨_, rfl, ?_⟩
    have e0 : decide (((i : Nat) : Int) = 0) = decide (i = 0) := by
      by_cases z : i = 0
      · rw [decide_eq_true z, z]; rfl
      · rw [decide_eq_false z, decide_eq_false (by omega)]
    rw [e0]
    refine ite2 (fun c1 => ?_) (fun c1 => ?_)
    · refine ⟨by unfold ndp; rw [c1]; rfl, fun _ => ?_⟩
      intro s H C cl fp
      refine ev 3 ?_
      rfl
    · have hi0 : i ≠ 0 := fun z => c1 (decide_eq_true z)
      refine ww_or1 ?_
      refine tcmp ?_
      refine esub ?_
      refine ev 1 ?_
      refine we_bin ?_
      refine ev 2 ?_
      refine we_int ?_
      simp_wf
      rw [show ((i : Nat) : Int) - 1 = ((i - 1 : Nat) : Int) by omega]
      refine ix_lstD (atI_M (by omega)) ?_
      refine ev 3 ?_
      refine bd_neM (f := f) _ _ S.eq S.ok u64 (by decide) ?_
      refine ⟨_, rfl, ?_⟩
      refine ⟨?_, fun _ => ?_⟩
      · unfold ndp
        rw [decide_eq_false hi0, Bool.false_or]
        by_cases q : L.getD (i - 1) default = v <;> simp [q]
      · intro s H C cl fp
        refine ev 3 ?_
        rfl
  refine wa_nil ?_
  simp_wf
  rw [show (fun p : α × Nat => f p.1) = f ∘ (·.1) from rfl, ← List.map_map, hf]
  refine h _ hd.1 (fun x => ?_) ?_
  · have := hd.2.2 x
    rw [this, hp.mem_iff]
    simp
  · refine Nat.le_trans (ded_len _ _) ?_
    rw [hp.length_eq]
    exact Nat.le_refl _
abbrev sL_unlike : Stmt := topS 14
abbrev nL_unlike : List Str := ["_law_things", "_law_told", "_law_k"]
theorem scL_unlike : FnScope nL_unlike ["_law_things"] (defScope sL_unlike) := ⟨rfl, rfl, rfl, by decide +kernel, rfl, by decide +kernel, by decide +kernel⟩
theorem ok_L_unlike {α : Type} [DecidableEq α] [Inhabited α] {f : α → D} {lt : α → α → Bool} {k : Nat} (S : SK f lt) (ms : mg "sorted" = none) (ml : mg "len" = none) (mr : mg "range" = none) : BodyOk P w K mg base G k nL_unlike "_law_unlike" sL_unlike (spSort f lt D.lst) := by
  intro fa cdv A outer s H E hr ds Ψ h
  have nd := scL_unlike.nd
  have u64 := Room.u64 hr
  have u70 := Room.u70 hr
  obtain ⟨L0, rfl, hl, h⟩ := h
  refine wss_cons ?_
  refine sasg 1 ?_
  refine we_of_wf (fcB bt_sorted ?_)
  refine acons ?_
  refine ev 0 ?_
  refine wa_nil ?_
  refine S.srt L0 u70 fun L hs hp => ?_
  have hz : L.length ≤ 1000000 := by rw [hp.length_eq]; exact hl
  have hd := ded_strict S L none hs (by simp)
  have hf : (L.zipIdx.filter (ndp L)).map (·.1) = ded none L := ded_zip L L [] rfl
  refine wss_one ?_
  refine ws_ret ?_
  refine we_of_wf (fcomp [("_law_k", 2)] ?_)
  refine irange ?_
  refine acons ?_
  refine ecB bt_len ?_
  refine acons ?_
  refine ev 1 ?_
  refine wa_nil ?_
  simp_wf
  refine wa_nil ?_
  rw [List.length_map]
  refine ⟨_, rfl, by omega, by omega, ?_⟩
  refine lcask_filt (L := List.range L.length) (fun i => .int (i : Nat)) (fun i => f (L.getD i default)) (fun i => ndp L (L.getD i default, i)) (rng_nat _) (sz_le (by rw [List.length_range]; exact hz)) (fun k i hi s H C cl fp => ?_) ?_
  · have hi := List.mem_range.mp (List.mem_of_getElem? hi)
    refine gname 2 ?_
    intro s H C cl fp
    refine wt_of_ww (ww_or ?_)
    refine tcmp ?_
    refine ev 2 ?_
    refine we_int ?_
    simp_wf
    refine ⟨_, rfl, ?_⟩
    have e0 : decide (((i : Nat) : Int) = 0) = decide (i = 0) := by
      by_cases z : i = 0
      · rw [decide_eq_true z, z]; rfl
      · rw [decide_eq_false z, decide_eq_false (by omega)]
    rw [e0]
    refine ite2 (fun c1 => ?_) (fun c1 => ?_)
    · refine ⟨by unfold ndp; rw [c1]; rfl, fun _ => ?_⟩
      intro s H C cl fp
      refine esub ?_
      refine ev 1 ?_
      refine ev 2 ?_
      refine ix_lstD (atI_M hi) ?_
      rfl
    · have hi0 : i ≠ 0 := fun z => c1 (decide_eq_true z)
      refine ww_or1 ?_
      refine tcmp ?_
      refine esub ?_
      refine ev 1 ?_
      refine ev 2 ?_
      refine ix_lstD (atI_M hi) ?_
      refine esub ?_
      refine ev 1 ?_
      refine we_bin ?_
      refine ev 2 ?_
      refine we_int ?_
      simp_wf
      rw [show ((i : Nat) : Int) - 1 = ((i - 1 : Nat) : Int) by omega]
      refine ix_lstD (atI_M (by omega)) ?_
      refine bd_neM (f := f) _ _ S.eq S.ok u64 (by decide) ?_
      refine ⟨_, rfl, ?_⟩
      refine ⟨?_, fun _ => ?_⟩
      · unfold ndp
        rw [decide_eq_false hi0, Bool.false_or]
        by_cases q : L.getD i default = L.getD (i - 1) default
        · rw [decide_eq_true q, q]; simp
        · rw [decide_eq_false q, decide_eq_true (show L.getD (i - 1) default ≠ L.getD i default from fun z => q z.symm)]; rfl
      · intro s H C cl fp
        refine esub ?_
        refine ev 1 ?_
        refine ev 2 ?_
        refine ix_lstD (atI_M hi) ?_
        rfl
  have hf2 : ((List.range L.length).filter fun i => ndp L (L.getD i default, i)).map (fun i => f (L.getD i default)) = (ded none L).map f := by
    rw [← hf, zip_range, List.filter_map, List.map_map, List.map_map]
    rfl
  rw [hf2]
  refine h _ hd.1 (fun x => ?_) ?_
  · have := hd.2.2 x
    rw [this, hp.mem_iff]
    simp
  · refine Nat.le_trans (ded_len _ _) ?_
    rw [hp.length_eq]
    exact Nat.le_refl _
end
end K01

namespace K01
open PySem PySem.Spec PyProof.Rows L2 DL
def lowM (kn : List Int) : Int := mxD (-1) kn + 1
def nwM (kn : List Int) (m : Nat) (r : Int) : Int := lowM kn + (r - lowM kn) % (m : Int)
def usedM (left kn : List Int) (m : Nat) (r : Int) : List Int := ded none (srtI (left.filter fun w => decide (nwM kn m r ≤ w) && decide (w % (m : Int) = r)))
def chrM (left kn : List Int) (m : Nat) (r : Nat) : List Int := usedM left kn m r ++ [nwM kn m r + m * (usedM left kn m r).length]
def choM (left kn : List Int) (m : Nat) : List Int := (List.range m).flatMap (chrM left kn m)
theorem asc_eq {a b : List Int} (ha : a.Pairwise (· < ·)) (hb : b.Pairwise (· < ·)) (h : ∀ x, x ∈ a ↔ x ∈ b) : a = b :=
  List.Perm.eq_of_pairwise (fun x y _ _ h1 h2 => by omega) ha hb ((List.perm_ext_iff_of_nodup (ha.imp fun h => by omega) (hb.imp fun h => by omega)).mpr h)
theorem srtI_le (L : List Int) : (srtI L).Pairwise fun x y => ltI y x = false := by
  have := List.pairwise_mergeSort (le := fun (a b : Int) => decide (a ≤ b)) (fun a b c h1 h2 => by simp at *; omega) (fun a b => by simp; omega) L
  exact this.imp fun {a b} h => by
    have : a ≤ b := by simpa using h
    exact decide_eq_false (by omega)
theorem used_asc (left kn : List Int) (m : Nat) (r : Int) : (usedM left kn m r).Pairwise (· < ·) :=
  (ded_strict skI _ none (srtI_le _) (by simp)).1.imp fun h => of_decide_eq_true h
theorem used_mem (left kn : List Int) (m : Nat) (r x : Int) : x ∈ usedM left kn m r ↔ x ∈ left ∧ nwM kn m r ≤ x ∧ x % (m : Int) = r := by
  have h := (ded_strict skI (srtI (left.filter fun w => decide (nwM kn m r ≤ w) && decide (w % (m : Int) = r))) none (srtI_le _) (by simp)).2.2 x
  have p : (srtI (left.filter fun w => decide (nwM kn m r ≤ w) && decide (w % (m : Int) = r))).Perm (left.filter fun w => decide (nwM kn m r ≤ w) && decide (w % (m : Int) = r)) := List.mergeSort_perm _ _
  unfold usedM
  rw [h, p.mem_iff, List.mem_filter]
  simp
theorem used_len (left kn : List Int) (m : Nat) (r : Int) : (usedM left kn m r).length ≤ left.length := by
  refine Nat.le_trans (ded_len _ _) ?_
  have p : (srtI (left.filter fun w => decide (nwM kn m r ≤ w) && decide (w % (m : Int) = r))).Perm (left.filter fun w => decide (nwM kn m r ≤ w) && decide (w % (m : Int) = r)) := List.mergeSort_perm _ _
  rw [p.length_eq]
  exact List.length_filter_le _ _
theorem nw_uniq {m : Nat} {low r k : Int} (h1 : 1 ≤ m) (h3 : m ≤ 3) (r0 : 0 ≤ r) (r1 : r < m) (k0 : 0 ≤ k) (k1 : k < m) (h : (low + k) % (m : Int) = r) : low + k = low + (r - low) % (m : Int) := by
  have : m = 1 ∨ m = 2 ∨ m = 3 := by omega
  rcases this with rfl | rfl | rfl <;> omega
theorem nw_ex {m : Nat} {low r : Int} (h1 : 1 ≤ m) (h3 : m ≤ 3) (r0 : 0 ≤ r) (r1 : r < m) : 0 ≤ (r - low) % (m : Int) ∧ (r - low) % (m : Int) < m ∧ (low + (r - low) % (m : Int)) % (m : Int) = r := by
  have : m = 1 ∨ m = 2 ∨ m = 3 := by omega
  rcases this with rfl | rfl | rfl <;> omega
theorem chr_len (left kn : List Int) (m : Nat) (h : left.length < 64) : ∀ L : List Nat, (L.flatMap (chrM left kn m)).length ≤ 64 * L.length
  | [] => Nat.le_refl _
  | r :: L => by
    have ih := chr_len left kn m h L
    have hu := used_len left kn m r
    rw [List.flatMap_cons, List.length_append, List.length_cons]
    unfold chrM at ih ⊢
    rw [List.length_append, List.length_singleton]
    omega
local macro_rules | `(tactic| simp_wf) => `(tactic| first
  | refine bd_add ?_ | refine bd_sub ?_ | refine bd_lt ?_ | refine bd_le ?_ | refine bd_gt ?_ | refine bd_ge ?_ | refine bd_eqI ?_ | refine bd_neI ?_
  | refine bd_eqB ?_ | refine bd_neB ?_ | refine bd_eqS ?_ | refine bd_neS ?_
  | refine bd_isN ?_ | refine bd_notN ?_ | refine bd_isB ?_ | refine bd_notB ?_ | refine bd_isNB ?_ | refine bd_notNB ?_
  | refine bd_mod (by first | assumption | decide | omega) ?_
  | refine bd_mul (by first | assumption | exact .inl ⟨by decide, by decide⟩ | exact .inr ⟨by decide, by decide⟩ | exact .inl ⟨by omega, by omega⟩ | exact .inr ⟨by omega, by omega⟩) ?_
  | refine bd_fdiv (by first | assumption | exact ⟨by decide, by decide⟩) ?_
  | refine bd_pow (by first | assumption | exact ⟨by decide, by decide, by decide⟩) ?_
  | refine bd_shl (by first | assumption | exact ⟨by omega, by omega, by omega⟩) ?_
  | refine bd_shr (by first | assumption | decide | omega) ?_
  | refine bd_andI ?_ | refine bd_orI ?_ | refine bd_xorI ?_ | refine ud_neg ?_
  | refine cd_lenT ?_ | refine cd_lenL ?_ | refine cd_tupleL ?_ | refine cd_tupleT ?_ | refine cd_int ?_ | refine cd_max2 rfl ?_ | refine cd_min2 rfl ?_
  | refine cf_list (.inl rfl) ?_ | refine cf_list (.inr rfl) ?_
  | refine ix_tupD (by first | rfl | assumption) ?_ | refine ix_lstD (by first | rfl | assumption) ?_)
section
variable {P : Program} {w : World} {K : PySem.W.Frag} {mg : Str → Option Value} {base : Heap} {G : DL.Cls}
def spnew_worth : DSpec := fun ds Ψ => ∃ (d : D) (kn : List Int) (r : Int) (m : Nat), ds = [d, .int r, .int (m : Nat)] ∧ (d = .lst (kn.map D.int) ∨ d = tupI kn) ∧ 1 ≤ m ∧ m ≤ 3 ∧ Ψ (.int (nwM kn m r))
abbrev snew_worth : Stmt := topS 4
abbrev nnew_worth : List Str := ["known", "rest", "modulus", "low"]
theorem scnew_worth : FnScope nnew_worth ["known", "rest", "modulus"] (defScope snew_worth) := ⟨rfl, rfl, rfl, by decide +kernel, rfl, by decide +kernel, by decide +kernel⟩
theorem ok_new_worth {k : Nat} (mx : mg "max" = none) : BodyOk P w K mg base G k nnew_worth "new_worth" snew_worth spnew_worth := by
  intro f cdv A outer s H E hr ds Ψ h
  have nd := scnew_worth.nd
  have u1 := Room.u1 hr
  obtain ⟨d, kn, r, m, rfl, hd, h1, h3, h⟩ := h
  refine wss_cons ?_
  refine sasg 3 ?_
  refine we_bin ?_
  refine emaxD ?_
  refine ev 0 ?_
  refine ⟨kn, hd, ?_⟩
  refine we_un ?_
  refine we_int ?_
  simp_wf
  refine ⟨_, rfl, ?_⟩
  refine we_int ?_
  simp_wf
  refine wss_one ?_
  refine ws_ret ?_
  refine we_bin ?_
  refine ev 3 ?_
  refine we_bin ?_
  refine we_bin ?_
  refine ev 1 ?_
  refine ev 3 ?_
  simp_wf
  refine ev 2 ?_
  simp_wf
  simp_wf
  exact h
def spnew_choices : DSpec := fun ds Ψ => ∃ (left kn : List Int) (m : Nat), ds = [tupI left, tupI kn, .int (m : Nat)] ∧ left.length < 64 ∧ 1 ≤ m ∧ m ≤ 3 ∧ Ψ (.lst ((choM left kn m).map D.int))
abbrev snew_choices : Stmt := topS 5
abbrev nnew_choices : List Str := ["left", "known", "modulus", "choices", "rest", "first", "used", "worth"]
theorem scnew_choices : FnScope nnew_choices ["left", "known", "modulus"] (defScope snew_choices) := ⟨rfl, rfl, rfl, by decide +kernel, rfl, by decide +kernel, by decide +kernel⟩
theorem ok_new_choices {k : Nat} (ml : mg "len" = none) (mr : mg "range" = none) (mS : mg "sorted" = none) (Fnew_worth : Fd P w K mg base G k "new_worth" 3 spnew_worth) : BodyOk P w K mg base G k nnew_choices "new_choices" snew_choices spnew_choices := by
  intro f cdv A outer s H E hr ds Ψ h
  have nd := scnew_choices.nd
  obtain ⟨left, kn, m, rfl, hl, h1, h3, h⟩ := h
  refine wss_cons ?_
  refine sown 3 ?_
  refine wf_lst ?_
  refine wa_nil ?_
  refine ⟨sz_le (Nat.le_of_ble_eq_true rfl), ?_⟩
  refine wss_cons ?_
  refine sfor ?_
  refine irange ?_
  refine acons ?_
  refine ev 2 ?_
  refine wa_nil ?_
  refine ⟨_, rfl, by omega, by omega, ?_⟩
  refine for_typed (List.range m) (fun i => .int (i : Nat)) (fun pre ρ => ∃ y4 y5 y6 y7, ρ = [some (.dat (tupI left)), some (.dat (tupI kn)), some (.dat (.int (m : Nat))), some (.own ((pre.flatMap (chrM left kn m)).map D.int)), y4, y5, y6, y7]) (rng_nat _) ⟨_, _, _, _, rfl⟩ (fun pre r post ρ2 hL hI => ?_) (fun ρ2 hI => ?_)
  · obtain ⟨y4, y5, y6, y7, rfl⟩ := hI
    have hpl : pre.length < 3 := by
      have := congrArg List.length hL
      rw [List.length_range, List.length_append, List.length_cons] at this
      omega
    have hcl := chr_len left kn m hl pre
    have hul := used_len left kn m r
    refine gname 4 ?_
    refine wss_cons ?_
    refine sasg 5 ?_
    refine ecall Fnew_worth ?_
    refine acons ?_
    refine ev 1 ?_
    refine acons ?_
    refine ev 4 ?_
    refine acons ?_
    refine ev 2 ?_
    refine wa_nil ?_
    refine ⟨_, kn, _, m, rfl, .inr rfl, h1, h3, ?_⟩
    refine wss_cons ?_
    refine sasg 6 ?_
    refine we_of_wf (fSortSc [("worth", 7)] ?_)
    refine wi_seq ?_
    refine ev 0 ?_
    refine ⟨_, .inr rfl, fun hz => ?_⟩
    refine scask_filt left D.int id (fun w => decide (nwM kn m r ≤ w) && decide (w % (m : Int) = (r : Int))) rfl hl (fun k x hx s H C cl fp => ?_) (fun out ha hm => ?_)
    · refine gname 7 ?_
      intro s H C cl fp
      refine wt_of_ww (ww_and ?_)
      refine tcmp ?_
      refine ev 7 ?_
      refine ev 5 ?_
      simp_wf
      refine ⟨_, rfl, ?_⟩
      refine ite2 (fun c1 => ?_) (fun c1 => ?_)
      · refine ww_and1 ?_
        refine tcmp ?_
        refine we_bin ?_
        refine ev 7 ?_
        refine ev 2 ?_
        simp_wf
        refine ev 4 ?_
        simp_wf
        refine ⟨_, rfl, ?_⟩
        have c1 : decide (nwM kn m r ≤ x) = true := by simpa using c1
        refine ⟨by rw [c1]; rfl, fun _ => ?_⟩
        intro s H C cl fp
        refine ev 7 ?_
        rfl
      · have c1 : decide (nwM kn m r ≤ x) = false := by simpa using c1
        refine ⟨by rw [c1]; rfl, fun z => ?_⟩
        rw [c1] at z
        cases z
    obtain rfl : out = usedM left kn m r := asc_eq ha (used_asc _ _ _ _) fun x => by
      rw [hm, used_mem]
      simp
    refine wss_cons ?_
    refine sexpr ?_
    refine eext 3 ?_
    refine acons ?_
    refine ev 6 ?_
    refine wa_nil ?_
    refine ⟨_, _, rfl, rfl, sz_le (by rw [List.length_map, List.length_map]; omega), ?_⟩
    refine wss_one ?_
    refine sexpr ?_
    refine eapp 3 ?_
    refine acons ?_
    refine we_bin ?_
    refine ev 5 ?_
    refine we_bin ?_
    refine ev 2 ?_
    refine ecB bt_len ?_
    refine acons ?_
    refine ev 6 ?_
    refine wa_nil ?_
    simp_wf
    simp_wf
    simp_wf
    refine wa_nil ?_
    refine ⟨_, _, rfl, rfl, sz_lt (by rw [List.length_append, List.length_map, List.length_map]; omega), ?_⟩
    have e : ((pre ++ [r]).flatMap (chrM left kn m)).map D.int = (pre.flatMap (chrM left kn m)).map D.int ++ (usedM left kn m r).map D.int ++ [D.int (nwM kn m r + m * (((usedM left kn m r).map D.int).length : Nat))] := by
      rw [List.flatMap_append, List.map_append, List.flatMap_cons, List.flatMap_nil, List.append_nil, chrM, List.map_append, List.length_map, List.append_assoc]
      rfl
    exact ⟨_, _, _, _, by rw [e]; rfl⟩
  · obtain ⟨y4, y5, y6, y7, rfl⟩ := hI
    refine sfreeze 3 ?_
    refine wss_one ?_
    refine ws_ret ?_
    refine ev 3 ?_
    exact h
def spL_least : DSpec := fun ds Ψ => ∃ (kn : List Int) (r : Int) (m : Nat), ds = [.lst (kn.map D.int), .int r, .int (m : Nat)] ∧ 0 ≤ r ∧ r < m ∧ 1 ≤ m ∧ m ≤ 3 ∧ Ψ (.int (nwM kn m r))
abbrev sL_least : Stmt := topS 15
abbrev nL_least : List Str := ["_law_known", "_law_rest", "_law_modulus", "_law_low", "_law_k"]
theorem scL_least : FnScope nL_least ["_law_known", "_law_rest", "_law_modulus"] (defScope sL_least) := ⟨rfl, rfl, rfl, by decide +kernel, rfl, by decide +kernel, by decide +kernel⟩
theorem ok_L_least {k : Nat} (mx : mg "max" = none) (mr : mg "range" = none) (mi : mg "int" = none) : BodyOk P w K mg base G k nL_least "_law_least_above" sL_least spL_least := by
  intro f cdv A outer s H E hr ds Ψ h
  have nd := scL_least.nd
  have u1 := Room.u1 hr
  have u64 := Room.u64 hr
  obtain ⟨kn, r, m, rfl, r0, r1, h1, h3, h⟩ := h
  refine wss_cons ?_
  refine sasg 3 ?_
  refine we_mono (Φ := fun d ρ' => d = .int (lowM kn) ∧ ρ' = [some (.dat (.lst (kn.map D.int))), some (.dat (.int r)), some (.dat (.int (m : Nat))), none, none]) ?_ (fun d ρ' e => ?_)
  · refine we_ite ?_
    refine tcmp ?_
    refine ev 0 ?_
    refine we_of_wf (wf_lst ?_)
    refine wa_nil ?_
    refine ⟨sz_le (Nat.le_of_ble_eq_true rfl), ?_⟩
    refine bd_neM (f := fun l : List Int => D.lst (l.map D.int)) (n := 1) kn [] (fun x y => eqb_lstM eqb_int x y) (fun x => okn_lstI x) u64 (by decide) ?_
    refine ⟨_, rfl, ?_⟩
    cases kn with
    | nil =>
      refine iteF ?_
      refine we_int ?_
      exact ⟨rfl, rfl⟩
    | cons y ys =>
      refine iteT ?_
      refine we_bin ?_
      refine ecB bt_max ?_
      refine acons ?_
      refine ev 0 ?_
      refine wa_nil ?_
      refine cd_maxL rfl u1 ?_
      refine we_int ?_
      simp_wf
      exact ⟨rfl, rfl⟩
  obtain ⟨rfl, rfl⟩ := e
  refine wss_cons ?_
  refine sfor ?_
  refine irange ?_
  refine acons ?_
  refine ev 2 ?_
  refine wa_nil ?_
  refine ⟨_, rfl, by omega, by omega, ?_⟩
  refine for_typed (List.range m) (fun i => .int (i : Nat)) (fun pre ρ => ∃ y4, ρ = [some (.dat (.lst (kn.map D.int))), some (.dat (.int r)), some (.dat (.int (m : Nat))), some (.dat (.int (lowM kn))), y4] ∧ ∀ k : Nat, k < pre.length → (lowM kn + (k : Int)) % (m : Int) ≠ r) (rng_nat _) ⟨_, rfl, by simp⟩ (fun pre i post ρ2 hL hI => ?_) (fun ρ2 hI => ?_)
  · obtain ⟨y4, rfl, hp⟩ := hI
    obtain ⟨hx, hlt⟩ : i = pre.length ∧ pre.length < m := by
      have e : (List.range m)[pre.length]? = some i := by rw [hL]; simp
      obtain ⟨h1, h2⟩ := List.getElem?_eq_some_iff.mp e
      simp at h1 h2
      exact ⟨h2.symm, h1⟩
    refine gname 4 ?_
    refine wss_one ?_
    refine ws_if ?_
    refine tcmp ?_
    refine we_bin ?_
    refine ecT bt_int ?_
    refine acons ?_
    refine we_bin ?_
    refine ev 3 ?_
    refine ev 4 ?_
    simp_wf
    refine wa_nil ?_
    simp_wf
    refine ev 2 ?_
    simp_wf
    refine ev 1 ?_
    simp_wf
    refine ⟨_, rfl, ?_⟩
    refine ite2 (fun c1 => ?_) (fun c1 => ?_)
    · refine wss_one ?_
      refine ws_ret ?_
      refine we_bin ?_
      refine ev 3 ?_
      refine ev 4 ?_
      simp_wf
      rw [nw_uniq h1 h3 r0 r1 (by omega) (by omega) (of_decide_eq_true c1)]
      exact h
    · refine wss_nil ?_
      refine ⟨_, rfl, fun k hk => ?_⟩
      rw [List.length_append, List.length_singleton] at hk
      by_cases z : k < pre.length
      · exact hp k z
      · have : k = i := by omega
        subst this
        exact fun q => c1 (decide_eq_true q)
  · obtain ⟨y4, rfl, hp⟩ := hI
    exfalso
    obtain ⟨a, b, c⟩ := nw_ex (low := lowM kn) h1 h3 r0 r1
    have := hp ((r - lowM kn) % (m : Int)).toNat (by rw [List.length_range]; omega)
    rw [Int.toNat_of_nonneg a] at this
    exact this c
end
end K01

namespace K01
open PySem PySem.Spec PyProof.Rows L2 DL
def stepT (kn : List Int) (m : Nat) (c : Int) (l : List Int) : List (List Int) := if c = -1 then (kn ++ choM l kn m).map (fun x => l ++ [x]) else [l ++ [c]]
def TM (kn : List Int) (m : Nat) (cells : List Int) : List (List Int) := cells.foldl (fun B c => B.flatMap (stepT kn m c)) [[]]
theorem TM_snoc (kn : List Int) (m : Nat) (cells : List Int) (c : Int) : TM kn m (cells ++ [c]) = (TM kn m cells).flatMap (stepT kn m c) := by
  unfold TM
  rw [List.foldl_append]
  rfl
theorem chr_len2 (left kn : List Int) (m : Nat) (h : left.length ≤ 2) : ∀ L : List Nat, (L.flatMap (chrM left kn m)).length ≤ 3 * L.length
  | [] => Nat.le_refl _
  | r :: L => by
    have ih := chr_len2 left kn m h L
    have hu := used_len left kn m r
    rw [List.flatMap_cons, List.length_append, List.length_cons]
    unfold chrM at ih ⊢
    rw [List.length_append, List.length_singleton]
    omega
theorem cho_len {left kn : List Int} {m : Nat} (h : left.length ≤ 2) (h3 : m ≤ 3) : (choM left kn m).length ≤ 9 := by
  have := chr_len2 left kn m h (List.range m)
  rw [List.length_range] at this
  unfold choM
  omega
theorem step_len {kn left : List Int} {m : Nat} {c : Int} (hk : kn.length ≤ 13) (h : left.length ≤ 2) (h3 : m ≤ 3) : (stepT kn m c left).length ≤ 25 := by
  have := cho_len (kn := kn) h h3
  unfold stepT
  split
  · rw [List.length_map, List.length_append]; omega
  · simp
theorem step_each {kn left : List Int} {m : Nat} {c : Int} : ∀ l ∈ stepT kn m c left, l.length = left.length + 1 := by
  intro l hl
  unfold stepT at hl
  split at hl
  · obtain ⟨x, _, rfl⟩ := List.mem_map.mp hl
    simp
  · have : l = left ++ [c] := by simpa using hl
    subst this
    simp
theorem flat_len {kn : List Int} {m : Nat} {c : Int} (hk : kn.length ≤ 13) (h3 : m ≤ 3) : ∀ B : List (List Int), (∀ l ∈ B, l.length ≤ 2) → (B.flatMap (stepT kn m c)).length ≤ 25 * B.length
  | [], _ => Nat.le_refl _
  | l :: B, h => by
    have ih := flat_len hk h3 B (c := c) fun x hx => h x (by simp [hx])
    have := step_len (c := c) hk (h l (by simp)) h3
    rw [List.flatMap_cons, List.length_append, List.length_cons]
    omega
theorem TM_each (kn : List Int) (m : Nat) (cells : List Int) : ∀ l ∈ TM kn m cells, l.length = cells.length := by
  suffices h : ∀ n (cells : List Int), cells.length = n → ∀ l ∈ TM kn m cells, l.length = n from fun l hl => h _ cells rfl l hl
  intro n
  induction n with
  | zero =>
    intro cells hc l hl
    have : cells = [] := List.length_eq_zero_iff.mp hc
    subst this
    have : l = [] := by simpa [TM] using hl
    rw [this]; rfl
  | succ n ih =>
    intro cells hc l hl
    rcases List.eq_nil_or_concat cells with rfl | ⟨pre, c, rfl⟩
    · cases hc
    · rw [List.concat_eq_append, TM_snoc] at hl
      obtain ⟨l0, h0, h1⟩ := List.mem_flatMap.mp hl
      rw [step_each l h1, ih pre (by simpa using hc) l0 h0]
theorem TM_len {kn : List Int} {m : Nat} (hk : kn.length ≤ 13) (h3 : m ≤ 3) : ∀ n (cells : List Int), cells.length = n → n ≤ 3 → (TM kn m cells).length ≤ 25 ^ n := by
  intro n
  induction n with
  | zero =>
    intro cells hc _
    have : cells = [] := List.length_eq_zero_iff.mp hc
    subst this
    simp [TM]
  | succ n ih =>
    intro cells hc hn
    rcases List.eq_nil_or_concat cells with rfl | ⟨pre, c, rfl⟩
    · cases hc
    · rw [List.concat_eq_append] at hc ⊢
      rw [List.length_append, List.length_singleton] at hc
      rw [TM_snoc]
      have h1 := flat_len (c := c) hk h3 (TM kn m pre) fun l hl => by rw [TM_each kn m pre l hl]; omega
      have h2 := ih pre (by omega) (by omega)
      rw [Nat.pow_succ]
      omega
theorem snocI (l : List Int) (x : Int) : D.tup (l.map D.int ++ [.int x]) = tupI (l ++ [x]) := by
  unfold tupI
  rw [List.map_append]
  rfl
local macro_rules | `(tactic| simp_wf) => `(tactic| first
  | refine bd_add ?_ | refine bd_sub ?_ | refine bd_lt ?_ | refine bd_le ?_ | refine bd_gt ?_ | refine bd_ge ?_ | refine bd_eqI ?_ | refine bd_neI ?_
  | refine bd_eqB ?_ | refine bd_neB ?_ | refine bd_eqS ?_ | refine bd_neS ?_
  | refine bd_isN ?_ | refine bd_notN ?_ | refine bd_isB ?_ | refine bd_notB ?_ | refine bd_isNB ?_ | refine bd_notNB ?_
  | refine bd_mod (by first | assumption | decide | omega) ?_
  | refine bd_mul (by first | assumption | exact .inl ⟨by decide, by decide⟩ | exact .inr ⟨by decide, by decide⟩ | exact .inl ⟨by omega, by omega⟩ | exact .inr ⟨by omega, by omega⟩) ?_
  | refine bd_fdiv (by first | assumption | exact ⟨by decide, by decide⟩) ?_
  | refine bd_pow (by first | assumption | exact ⟨by decide, by decide, by decide⟩) ?_
  | refine bd_shl (by first | assumption | exact ⟨by omega, by omega, by omega⟩) ?_
  | refine bd_shr (by first | assumption | decide | omega) ?_
  | refine bd_andI ?_ | refine bd_orI ?_ | refine bd_xorI ?_ | refine ud_neg ?_
  | refine cd_lenT ?_ | refine cd_lenL ?_ | refine cd_tupleL ?_ | refine cd_tupleT ?_ | refine cd_int ?_ | refine cd_max2 rfl ?_ | refine cd_min2 rfl ?_
  | refine cf_list (.inl rfl) ?_ | refine cf_list (.inr rfl) ?_
  | refine ix_tupD (by first | rfl | assumption) ?_ | refine ix_lstD (by first | rfl | assumption) ?_)
section
variable {P : Program} {w : World} {K : PySem.W.Frag} {mg : Str → Option Value} {base : Heap} {G : DL.Cls}
def sptypical : DSpec := fun ds Ψ => ∃ (p : Int × List Int) (d : D) (ws : List Int) (m : Nat), ds = [pairI p, d, .int (m : Nat)] ∧ SeqD d (ws.map D.int) ∧ p.2.length ≤ 3 ∧ ws.length ≤ 10 ∧ 1 ≤ m ∧ m ≤ 3 ∧
  ∀ (kn : List Int) (out : List (Int × List Int)), (∀ x, x ∈ kn ↔ x ∈ ws ++ p.2.filter fun c => decide (c ≠ -1)) → out.Pairwise (fun x y => DL.ltP x y = true) → (∀ x, x ∈ out ↔ ∃ l ∈ TM kn m p.2, x = (p.1, l)) → Ψ (.tup (out.map pairI))
abbrev stypical_rows : Stmt := topS 6
abbrev ntypical_rows : List Str := ["pattern", "worths", "modulus", "known", "cell", "begun", "longer", "left", "choices", "choice"]
theorem sctypical_rows : FnScope ntypical_rows ["pattern", "worths", "modulus"] (defScope stypical_rows) := ⟨rfl, rfl, rfl, by decide +kernel, rfl, by decide +kernel, by decide +kernel⟩
theorem ok_typical_rows {k : Nat} {ts : Tok} (mL : mg "list" = none) (mS : mg "STAR" = some (.int (-1) ts)) (FsI : Fd P w K mg base G k "sorted_things" 1 (spSort D.int ltI D.tup)) (FsP : Fd P w K mg base G k "sorted_things" 1 (spSort pairI DL.ltP D.tup)) (Fnew_choices : Fd P w K mg base G k "new_choices" 3 spnew_choices) :
    BodyOk P w K mg base G k ntypical_rows "typical_rows" stypical_rows sptypical := by
  intro f cdv A outer s H E hr ds Ψ h
  have nd := sctypical_rows.nd
  obtain ⟨p, d, ws, m, rfl, hd, hp3, hw, h1, h3, h⟩ := h
  have hfl : (p.2.filter fun c => decide (c ≠ -1)).length ≤ 3 := Nat.le_trans (List.length_filter_le _ _) hp3
  refine wss_cons ?_
  refine sasg 3 ?_
  refine ecall FsI ?_
  refine acons ?_
  refine we_of_wf (wf_lst ?_)
  refine astar ?_
  refine ev 1 ?_
  refine ⟨_, hd, ?_⟩
  refine astar ?_
  refine we_of_wf (fcomp [("cell", 4)] ?_)
  refine wi_seq ?_
  refine esub ?_
  refine ev 0 ?_
  refine we_int ?_
  simp_wf
  refine ⟨_, .inr rfl, fun hz => ?_⟩
  refine lcask_filt (L := p.2) D.int D.int (fun c => decide (c ≠ -1)) rfl (sz_le (by omega)) (fun k x hx s H C cl fp => ?_) ?_
  · refine gname 4 ?_
    intro s H C cl fp
    refine tcmp ?_
    refine ev 4 ?_
    refine eg ?_
    simp_wf
    refine ⟨_, rfl, ?_⟩
    refine ⟨rfl, fun _ => ?_⟩
    intro s H C cl fp
    refine ev 4 ?_
    rfl
  refine ⟨_, .inl rfl, ?_⟩
  refine wa_nil ?_
  refine ⟨sz_le (by rw [List.append_nil, List.length_append, List.length_map, List.length_map]; omega), ?_⟩
  refine wa_nil ?_
  refine ⟨ws ++ p.2.filter fun c => decide (c ≠ -1), by rw [List.append_nil, List.map_append], by rw [List.length_append]; omega, fun kn hks hkm hkl => ?_⟩
  have hk13 : kn.length ≤ 13 := by rw [List.length_append] at hkl; omega
  refine wss_cons ?_
  refine sasg 5 ?_
  refine we_of_wf (wf_lst ?_)
  refine acons ?_
  refine we_tup ?_
  refine wa_nil ?_
  refine ⟨sz_le (Nat.le_of_ble_eq_true rfl), ?_⟩
  refine wa_nil ?_
  refine ⟨sz_le (Nat.le_of_ble_eq_true rfl), ?_⟩
  refine wss_cons ?_
  refine sfor ?_
  refine wi_seq ?_
  refine esub ?_
  refine ev 0 ?_
  refine we_int ?_
  simp_wf
  refine ⟨_, .inr rfl, fun hz => ?_⟩
  refine for_typed p.2 D.int (fun pre ρ => ∃ y4 y6 y7 y8 y9, ρ = [some (.dat (pairI p)), some (.dat d), some (.dat (.int (m : Nat))), some (.dat (tupI kn)), y4, some (.dat (.lst ((TM kn m pre).map tupI))), y6, y7, y8, y9]) rfl ⟨_, _, _, _, _, rfl⟩ (fun pre c post ρ2 hL hI => ?_) (fun ρ2 hI => ?_)
  · obtain ⟨y4, y6, y7, y8, y9, rfl⟩ := hI
    have hpl : pre.length ≤ 2 := by
      have := congrArg List.length hL
      rw [List.length_append, List.length_cons] at this
      omega
    have hTl : (TM kn m pre).length ≤ 625 := by
      refine Nat.le_trans (TM_len hk13 h3 _ pre rfl (by omega)) ?_
      exact Nat.le_trans (Nat.pow_le_pow_right (by decide) hpl) (by decide)
    refine gname 4 ?_
    refine wss_cons ?_
    refine sown 6 ?_
    refine wf_lst ?_
    refine wa_nil ?_
    refine ⟨sz_le (Nat.le_of_ble_eq_true rfl), ?_⟩
    refine wss_cons ?_
    refine sfor ?_
    refine wi_seq ?_
    refine ev 5 ?_
    refine ⟨_, .inl rfl, fun hz => ?_⟩
    refine for_typed (TM kn m pre) tupI (fun pre2 ρ => ∃ y7 y8 y9, ρ = [some (.dat (pairI p)), some (.dat d), some (.dat (.int (m : Nat))), some (.dat (tupI kn)), some (.dat (.int c)), some (.dat (.lst ((TM kn m pre).map tupI))), some (.own ((pre2.flatMap (stepT kn m c)).map tupI)), y7, y8, y9]) rfl ⟨_, _, _, rfl⟩ (fun pre2 l post2 ρ3 hL2 hI2 => ?_) (fun ρ3 hI2 => ?_)
    · obtain ⟨y7, y8, y9, rfl⟩ := hI2
      have hin : ∀ x ∈ pre2 ++ [l], x.length ≤ 2 := fun x hx => by
        have : x ∈ TM kn m pre := by
          rw [hL2]
          rcases List.mem_append.mp hx with q | q
          · exact List.mem_append_left _ q
          · exact List.mem_append_right _ (by have : x = l := by simpa using q
                                              rw [this]; simp)
        rw [TM_each kn m pre x this]
        exact hpl
      have hl2 : l.length ≤ 2 := hin l (by simp)
      have hfl2 := flat_len (c := c) hk13 h3 pre2 fun x hx => hin x (by simp [hx])
      have hp2 : pre2.length ≤ 625 := by
        have := congrArg List.length hL2
        rw [List.length_append] at this
        omega
      have hch := cho_len (kn := kn) (m := m) hl2 h3
      have snoc : ∀ {L : List (List Int)}, stepT kn m c l = L → ((pre2 ++ [l]).flatMap (stepT kn m c)).map tupI = (pre2.flatMap (stepT kn m c)).map tupI ++ L.map tupI := fun e => by
        rw [List.flatMap_append, List.map_append, List.flatMap_cons, List.flatMap_nil, List.append_nil, e]
      refine gname 7 ?_
      refine wss_one ?_
      refine ws_if ?_
      refine tcmp ?_
      refine ev 4 ?_
      refine eg ?_
      simp_wf
      refine ⟨_, rfl, ?_⟩
      refine ite2 (fun c1 => ?_) (fun c1 => ?_)
      · have c1 : c = -1 := of_decide_eq_true c1
        refine wss_cons ?_
        refine sasg 8 ?_
        refine we_of_wf (wf_lst ?_)
        refine astar ?_
        refine ev 3 ?_
        refine ⟨_, .inr rfl, ?_⟩
        refine astar ?_
        refine ecall Fnew_choices ?_
        refine acons ?_
        refine ev 7 ?_
        refine acons ?_
        refine ev 3 ?_
        refine acons ?_
        refine ev 2 ?_
        refine wa_nil ?_
        refine ⟨l, kn, m, rfl, by omega, h1, h3, ?_⟩
        refine ⟨_, .inl rfl, ?_⟩
        refine wa_nil ?_
        refine ⟨sz_le (by rw [List.append_nil, List.length_append, List.length_map, List.length_map]; omega), ?_⟩
        rw [List.append_nil, ← List.map_append]
        refine wss_one ?_
        refine sexpr ?_
        refine eext 6 ?_
        refine acons ?_
        refine we_of_wf (fcomp [("choice", 9)] ?_)
        refine wi_seq ?_
        refine ev 8 ?_
        refine ⟨_, .inl rfl, fun hz => ?_⟩
        refine lcask_map (kn ++ choM l kn m) D.int (fun x => tupI (l ++ [x])) rfl (sz_le (by rw [List.length_append]; omega)) (fun k x hx s H C cl fp => ?_) ?_
        · refine gname 9 ?_
          intro s H C cl fp
          refine we_tup ?_
          refine astar ?_
          refine ev 7 ?_
          refine ⟨_, .inr rfl, ?_⟩
          refine acons ?_
          refine ev 9 ?_
          refine wa_nil ?_
          refine ⟨sz_le (by rw [List.length_append, List.length_map]; show l.length + 1 ≤ _; omega), ?_⟩
          exact snocI l x
        refine wa_nil ?_
        refine ⟨_, _, rfl, rfl, sz_le (by rw [List.length_map, List.length_map, List.length_append]; omega), ?_⟩
        exact ⟨_, _, _, by rw [snoc (L := (kn ++ choM l kn m).map fun x => l ++ [x]) (by unfold stepT; rw [if_pos c1]), List.map_map]; rfl⟩
      · have c1 : ¬ c = -1 := fun z => c1 (decide_eq_true z)
        refine wss_one ?_
        refine sexpr ?_
        refine eapp 6 ?_
        refine acons ?_
        refine we_tup ?_
        refine astar ?_
        refine ev 7 ?_
        refine ⟨_, .inr rfl, ?_⟩
        refine acons ?_
        refine ev 4 ?_
        refine wa_nil ?_
        refine ⟨sz_le (by rw [List.length_append, List.length_map]; show l.length + 1 ≤ _; omega), ?_⟩
        refine wa_nil ?_
        refine ⟨_, _, rfl, rfl, sz_lt (by rw [List.length_map]; omega), ?_⟩
        rw [snocI]
        exact ⟨_, _, _, by rw [snoc (L := [l ++ [c]]) (by unfold stepT; rw [if_neg c1])]; rfl⟩
    · obtain ⟨y7, y8, y9, rfl⟩ := hI2
      refine sfreeze 6 ?_
      refine wss_one ?_
      refine sasg 5 ?_
      refine we_of_wf (fcT bt_list ?_)
      refine acons ?_
      refine ev 6 ?_
      refine wa_nil ?_
      simp_wf
      rw [← TM_snoc]
      exact ⟨_, _, _, _, _, rfl⟩
  · obtain ⟨y4, y6, y7, y8, y9, rfl⟩ := hI
    have hTl : (TM kn m p.2).length ≤ 15625 := by
      refine Nat.le_trans (TM_len hk13 h3 _ p.2 rfl (by omega)) ?_
      exact Nat.le_trans (Nat.pow_le_pow_right (by decide) hp3) (by decide)
    refine wss_one ?_
    refine ws_ret ?_
    refine ecall FsP ?_
    refine acons ?_
    refine we_of_wf (fcomp [("left", 7)] ?_)
    refine wi_seq ?_
    refine ev 5 ?_
    refine ⟨_, .inl rfl, fun hz => ?_⟩
    refine lcask_map (TM kn m p.2) tupI (fun l => pairI (p.1, l)) rfl (sz_le (by omega)) (fun k x hx s H C cl fp => ?_) ?_
    · refine gname 7 ?_
      intro s H C cl fp
      refine we_tup ?_
      refine acons ?_
      refine esub ?_
      refine ev 0 ?_
      refine we_int ?_
      simp_wf
      refine acons ?_
      refine ev 7 ?_
      refine wa_nil ?_
      refine ⟨sz_le (Nat.le_of_ble_eq_true rfl), ?_⟩
      rfl
    refine wa_nil ?_
    refine ⟨(TM kn m p.2).map fun l => (p.1, l), by rw [List.map_map]; rfl, by rw [List.length_map]; omega, fun out ho hm _ => ?_⟩
    refine h kn out hkm ho fun x => ?_
    rw [hm, List.mem_map]
    exact ⟨fun ⟨l, a, b⟩ => ⟨l, a, b.symm⟩, fun ⟨l, a, b⟩ => ⟨l, a, b.symm⟩⟩
end
end K01

namespace K01
open PySem PySem.Spec PyProof.Rows L2 DL
def lk (seen : List (Int × Int)) (x : Int) : Option Int := (seen.find? fun e => decide (e.1 = x)).map (·.2)
def cnt (seen : List (Int × Int)) (m : Nat) (r : Int) : Nat := (seen.filter fun e => decide (e.1 % (m : Int) = r)).length
def newV (kn : List Int) (m : Nat) (seen : List (Int × Int)) (x : Int) : Int := nwM kn m (x % (m : Int)) + m * (cnt seen m (x % (m : Int)) : Nat)
def old (kn : List Int) (q : Int × Int) : Bool := decide (0 ≤ q.1) || decide (q.2 ∈ kn)
def kstep (kn : List Int) (m : Nat) (s : List (Int × Int) × List Int) (q : Int × Int) : List (Int × Int) × List Int :=
  if old kn q = true then (s.1, s.2 ++ [q.2]) else match lk s.1 q.2 with
    | some v => (s.1, s.2 ++ [v])
    | none => (s.1 ++ [(q.2, newV kn m s.1 q.2)], s.2 ++ [newV kn m s.1 q.2])
def krun (kn : List Int) (m : Nat) (Z : List (Int × Int)) : List (Int × Int) × List Int := Z.foldl (kstep kn m) ([], [])
def kindM (kn : List Int) (m : Nat) (cells w : List Int) : List Int := (krun kn m (cells.zip w)).2
abbrev dseen (seen : List (Int × Int)) : List (Int × D) := seen.map fun e => (e.1, .int e.2)
theorem lkI_seen (seen : List (Int × Int)) (x : Int) : lkI (dseen seen) x = (lk seen x).map D.int := by
  unfold lkI lk dseen
  rw [List.find?_map, Option.map_map, Option.map_map]
  rfl
theorem any_seen (seen : List (Int × Int)) (x : Int) (h : lk seen x = none) : (dseen seen).any (fun p => decide (p.1 = x)) = false := by
  unfold lk at h
  rw [Option.map_eq_none_iff, List.find?_eq_none] at h
  rw [List.any_eq_false]
  intro p hp
  obtain ⟨e, he, rfl⟩ := List.mem_map.mp hp
  exact h e he
theorem put_seen (seen : List (Int × Int)) (x v : Int) (h : lk seen x = none) : putI (dseen seen) x (.int v) = dseen (seen ++ [(x, v)]) := by
  unfold putI
  rw [any_seen seen x h, if_neg (by decide)]
  unfold dseen
  rw [List.map_append]
  rfl
theorem lk_snoc (seen : List (Int × Int)) (x v : Int) (h : lk seen x = none) : lk (seen ++ [(x, v)]) x = some v := by
  unfold lk at h ⊢
  rw [Option.map_eq_none_iff] at h
  rw [List.find?_append, h]
  simp
abbrev manyL (seen : List (Int × Int)) (m : Nat) : List D := (List.range m).map fun r : Nat => .int ((cnt seen m (r : Int) : Nat) : Int)
theorem cnt_snoc (seen : List (Int × Int)) (m : Nat) (x v r : Int) : cnt (seen ++ [(x, v)]) m r = cnt seen m r + if x % (m : Int) = r then 1 else 0 := by
  unfold cnt
  rw [List.filter_append, List.length_append]
  by_cases h : x % (m : Int) = r
  · rw [if_pos h]
    simp [h]
  · rw [if_neg h]
    simp [h]
theorem many_snoc (seen : List (Int × Int)) (m : Nat) (x v : Int) {j : Nat} (hj : x % (m : Int) = (j : Int)) (hm : j < m) : (manyL seen m).set j (.int ((cnt seen m (j : Int) : Nat) + 1 : Int)) = manyL (seen ++ [(x, v)]) m := by
  apply List.ext_getElem?
  intro i
  by_cases hi : i < m
  · by_cases e : i = j
    · subst e
      rw [List.getElem?_set_self (by simpa using hi), List.getElem?_map, List.getElem?_range hi]
      show some (D.int _) = some (D.int _)
      rw [cnt_snoc, if_pos hj]
      rfl
    · rw [List.getElem?_set_ne (fun z => e z.symm), List.getElem?_map, List.getElem?_map, List.getElem?_range hi]
      show some (D.int _) = some (D.int _)
      rw [cnt_snoc, if_neg (by omega)]
      rfl
  · rw [List.getElem?_eq_none (by simpa using hi), List.getElem?_eq_none (by simpa using hi)]
theorem atI_many (seen : List (Int × Int)) (m : Nat) {j : Nat} (h : j < m) : L2.atI (manyL seen m) (j : Int) = some (.int ((cnt seen m (j : Int) : Nat) : Int)) := by
  refine atI_nat ?_
  rw [List.getElem?_map, List.getElem?_range h]
  rfl
theorem many0 (m : Nat) : List.replicate ((m : Nat) : Int).toNat (D.int 0) = manyL [] m := by
  rw [Int.toNat_natCast]
  apply List.ext_getElem?
  intro i
  by_cases hi : i < m
  · rw [List.getElem?_map, List.getElem?_range hi, List.getElem?_replicate, if_pos hi]
    rfl
  · rw [List.getElem?_eq_none (by simpa using hi), List.getElem?_eq_none (by simpa using hi)]
theorem krun_snoc (kn : List Int) (m : Nat) (Z : List (Int × Int)) (q : Int × Int) : krun kn m (Z ++ [q]) = kstep kn m (krun kn m Z) q := by
  unfold krun
  rw [List.foldl_append]
  rfl
theorem kstep_len (kn : List Int) (m : Nat) (s : List (Int × Int) × List Int) (q : Int × Int) : (kstep kn m s q).2.length = s.2.length + 1 ∧ (kstep kn m s q).1.length ≤ s.1.length + 1 := by
  unfold kstep
  split
  · simp
  · split <;> simp
theorem krun_len (kn : List Int) (m : Nat) (Z : List (Int × Int)) : (krun kn m Z).2.length = Z.length ∧ (krun kn m Z).1.length ≤ Z.length := by
  suffices h : ∀ n (Z : List (Int × Int)), Z.length = n → (krun kn m Z).2.length = n ∧ (krun kn m Z).1.length ≤ n from h _ Z rfl
  intro n
  induction n with
  | zero =>
    intro Z hZ
    have : Z = [] := List.length_eq_zero_iff.mp hZ
    subst this
    exact ⟨rfl, Nat.le_refl _⟩
  | succ n ih =>
    intro Z hZ
    rcases List.eq_nil_or_concat Z with rfl | ⟨pre, q, rfl⟩
    · cases hZ
    · rw [List.concat_eq_append] at hZ ⊢
      have := ih pre (by simpa using hZ)
      have k := kstep_len kn m (krun kn m pre) q
      rw [krun_snoc]
      omega
local macro_rules | `(tactic| simp_wf) => `(tactic| first
  | refine bd_add ?_ | refine bd_sub ?_ | refine bd_lt ?_ | refine bd_le ?_ | refine bd_gt ?_ | refine bd_ge ?_ | refine bd_eqI ?_ | refine bd_neI ?_
  | refine bd_eqB ?_ | refine bd_neB ?_ | refine bd_eqS ?_ | refine bd_neS ?_
  | refine bd_isN ?_ | refine bd_notN ?_ | refine bd_isB ?_ | refine bd_notB ?_ | refine bd_isNB ?_ | refine bd_notNB ?_
  | refine bd_mod (by first | assumption | decide | omega) ?_
  | refine bd_mul (by first | assumption | exact .inl ⟨by decide, by decide⟩ | exact .inr ⟨by decide, by decide⟩ | exact .inl ⟨by omega, by omega⟩ | exact .inr ⟨by omega, by omega⟩) ?_
  | refine bd_fdiv (by first | assumption | exact ⟨by decide, by decide⟩) ?_
  | refine bd_pow (by first | assumption | exact ⟨by decide, by decide, by decide⟩) ?_
  | refine bd_shl (by first | assumption | exact ⟨by omega, by omega, by omega⟩) ?_
  | refine bd_shr (by first | assumption | decide | omega) ?_
  | refine bd_andI ?_ | refine bd_orI ?_ | refine bd_xorI ?_ | refine ud_neg ?_
  | refine cd_lenT ?_ | refine cd_lenL ?_ | refine cd_tupleL ?_ | refine cd_tupleT ?_ | refine cd_int ?_ | refine cd_max2 rfl ?_ | refine cd_min2 rfl ?_
  | refine cf_list (.inl rfl) ?_ | refine cf_list (.inr rfl) ?_
  | refine ix_tupD (by first | rfl | assumption) ?_ | refine ix_lstD (by first | rfl | assumption) ?_)
section
variable {P : Program} {w : World} {K : PySem.W.Frag} {mg : Str → Option Value} {base : Heap} {G : DL.Cls}
def spL_kind : DSpec := fun ds Ψ => ∃ (p : Int × List Int) (fl kn : List Int) (m : Nat), ds = [pairI p, tupI fl, .lst (kn.map D.int), .int (m : Nat)] ∧ fl.length = p.2.length ∧ p.2.length ≤ 3 ∧ 1 ≤ m ∧ m ≤ 3 ∧ Ψ (pairI (p.1, kindM kn m p.2 fl))
abbrev sL_kind : Stmt := topS 16
abbrev nL_kind : List Str := ["_law_pattern", "_law_filling", "_law_known", "_law_modulus", "_law_seen", "_law_cells", "_law_many", "_law_k", "_law_worth", "_law_rest"]
theorem scL_kind : FnScope nL_kind ["_law_pattern", "_law_filling", "_law_known", "_law_modulus"] (defScope sL_kind) := ⟨rfl, rfl, rfl, by decide +kernel, rfl, by decide +kernel, by decide +kernel⟩
theorem ok_L_kind {k : Nat} (ml : mg "len" = none) (mr : mg "range" = none) (mt : mg "tuple" = none) (mi : mg "int" = none) (FL_least : Fd P w K mg base G k "_law_least_above" 3 spL_least) : BodyOk P w K mg base G k nL_kind "_law_kind" sL_kind spL_kind := by
  intro f cdv A outer s H E hr ds Ψ h
  have nd := scL_kind.nd
  have u1 := Room.u1 hr
  obtain ⟨p, fl, kn, m, rfl, hfl, hp3, h1, h3, h⟩ := h
  refine wss_cons ?_
  refine sparKOZ 4 5 6 3 ?_
  rw [many0]
  refine wss_cons ?_
  refine sfor ?_
  refine irange ?_
  refine acons ?_
  refine ecB bt_len ?_
  refine acons ?_
  refine ev 1 ?_
  refine wa_nil ?_
  simp_wf
  refine wa_nil ?_
  rw [List.length_map, hfl]
  refine ⟨_, rfl, by omega, by omega, ?_⟩
  refine for_typed (List.range p.2.length) (fun i => .int (i : Nat)) (fun pre ρ => ∃ seen cells y7 y8 y9, (seen, cells) = krun kn m ((p.2.zip fl).take pre.length) ∧ ρ = [some (.dat (pairI p)), some (.dat (tupI fl)), some (.dat (.lst (kn.map D.int))), some (.dat (.int (m : Nat))), some (dicE (dseen seen)), some (.own (cells.map D.int)), some (.own (manyL seen m)), y7, y8, y9]) (rng_nat _) ⟨[], [], _, _, _, rfl, rfl⟩ (fun pre i post ρ2 hL hI => ?_) (fun ρ2 hI => ?_)
  · obtain ⟨seen, cells, y7, y8, y9, hst, rfl⟩ := hI
    obtain ⟨hx, hlt⟩ : i = pre.length ∧ pre.length < p.2.length := by
      have e : (List.range p.2.length)[pre.length]? = some i := by rw [hL]; simp
      obtain ⟨h1, h2⟩ := List.getElem?_eq_some_iff.mp e
      simp at h1 h2
      exact ⟨h2.symm, h1⟩
    have hil : i < p.2.length := by omega
    have hif : i < fl.length := by omega
    obtain ⟨c, hc⟩ : ∃ c, p.2[i]? = some c := ⟨_, List.getElem?_eq_getElem hil⟩
    obtain ⟨x, hxv⟩ : ∃ x, fl[i]? = some x := ⟨_, List.getElem?_eq_getElem hif⟩
    have hz : (p.2.zip fl)[i]? = some (c, x) := by
      rw [List.getElem?_zip_eq_some]
      exact ⟨hc, hxv⟩
    have hat : (p.2.zip fl).take (pre ++ [i]).length = (p.2.zip fl).take pre.length ++ [(c, x)] := by
      rw [List.length_append, List.length_singleton, List.take_add_one, ← hx, hz]
      rfl
    have hzl : (p.2.zip fl).length = p.2.length := by rw [List.length_zip, hfl, Nat.min_self]
    have hlen : cells.length = min pre.length (p.2.zip fl).length ∧ seen.length ≤ min pre.length (p.2.zip fl).length := by
      have q := krun_len kn m ((p.2.zip fl).take pre.length)
      rw [← hst, List.length_take] at q
      exact q
    have hlc : cells.length ≤ 3 := by omega
    have hls : seen.length ≤ 3 := by omega
    have nxt : ∀ {z : List (Int × Int) × List Int}, kstep kn m (seen, cells) (c, x) = z → z = krun kn m ((p.2.zip fl).take (pre ++ [i]).length) := fun e => by
      rw [hat, krun_snoc, ← hst, e]
    have a1 : L2.atI (fl.map D.int) (i : Int) = some (.int x) := atI_nat (by rw [List.getElem?_map, hxv]; rfl)
    have a2 : L2.atI (p.2.map D.int) (i : Int) = some (.int c) := atI_nat (by rw [List.getElem?_map, hc]; rfl)
    refine gname 7 ?_
    refine wss_cons ?_
    refine sasg 8 ?_
    refine esub ?_
    refine ev 1 ?_
    refine ev 7 ?_
    refine ix_tupD a1 ?_
    refine wss_cons ?_
    refine ws_if ?_
    refine wt_mono (Φ := fun b ρ' => b = old kn (c, x) ∧ ρ' = [some (.dat (pairI p)), some (.dat (tupI fl)), some (.dat (.lst (kn.map D.int))), some (.dat (.int (m : Nat))), some (dicE (dseen seen)), some (.own (cells.map D.int)), some (.own (manyL seen m)), some (.dat (.int (i : Nat))), some (.dat (.int x)), y9]) ?_ (fun b ρ' e => ?_)
    · refine wt_of_ww (ww_or ?_)
      refine tcmp ?_
      refine esub ?_
      refine esub ?_
      refine ev 0 ?_
      refine we_int ?_
      simp_wf
      refine ev 7 ?_
      refine ix_tupD a2 ?_
      refine we_int ?_
      simp_wf
      refine ⟨_, rfl, ?_⟩
      refine ite2 (fun c1 => ?_) (fun c1 => ?_)
      · have c1 : decide (0 ≤ c) = true := by simpa using c1
        exact ⟨by unfold old; rw [c1]; rfl, rfl⟩
      · have c1 : decide (0 ≤ c) = false := by simpa using c1
        refine ww_or1 ?_
        refine tcmp ?_
        refine ev 8 ?_
        refine ev 2 ?_
        refine bd_inI (ns := kn) (.inl rfl) ?_
        refine ⟨_, rfl, ?_⟩
        exact ⟨by unfold old; rw [c1]; rfl, rfl⟩
    obtain ⟨rfl, rfl⟩ := e
    cases ho : old kn (c, x) with
    | true =>
      refine iteT ?_
      refine wss_cons ?_
      refine sexpr ?_
      refine eapp 5 ?_
      refine acons ?_
      refine ev 8 ?_
      refine wa_nil ?_
      refine ⟨_, _, rfl, rfl, sz_lt (by rw [List.length_map]; omega), ?_⟩
      refine wss_one ?_
      refine ws_continue ?_
      exact ⟨seen, cells ++ [x], _, _, _, nxt (by unfold kstep; rw [if_pos ho]), by rw [List.map_append]; rfl⟩
    | false =>
      refine iteF ?_
      refine wss_nil ?_
      refine wss_cons ?_
      refine ws_if ?_
      refine tnotinD 4 ?_
      refine ev 8 ?_
      refine ⟨_, _, rfl, rfl, ?_⟩
      rw [lkI_seen]
      cases hl : lk seen x with
      | some v =>
        refine iteF ?_
        refine wss_nil ?_
        refine wss_one ?_
        refine sexpr ?_
        refine eapp 5 ?_
        refine acons ?_
        refine egetD 4 ?_
        refine ev 8 ?_
        refine ⟨_, _, _, rfl, rfl, (by rw [lkI_seen, hl]; rfl), ?_⟩
        refine wa_nil ?_
        refine ⟨_, _, rfl, rfl, sz_lt (by rw [List.length_map]; omega), ?_⟩
        exact ⟨seen, cells ++ [v], _, _, _, nxt (by unfold kstep; rw [if_neg (by rw [ho]; decide), hl]), by rw [List.map_append]; rfl⟩
      | none =>
        obtain ⟨j, hj, hjm⟩ : ∃ j : Nat, x % (m : Int) = (j : Int) ∧ j < m := by
          have a := Int.emod_nonneg x (show (m : Int) ≠ 0 by omega)
          have b := Int.emod_lt_of_pos x (show (0 : Int) < (m : Int) by omega)
          exact ⟨(x % (m : Int)).toNat, by omega, by omega⟩
        refine iteT ?_
        refine wss_cons ?_
        refine sasg 9 ?_
        refine we_bin ?_
        refine ecT bt_int ?_
        refine acons ?_
        refine ev 8 ?_
        refine wa_nil ?_
        simp_wf
        refine ev 3 ?_
        simp_wf
        rw [hj]
        refine wss_cons ?_
        refine sputD 4 ?_
        refine we_bin ?_
        refine ecall FL_least ?_
        refine acons ?_
        refine ev 2 ?_
        refine acons ?_
        refine ev 9 ?_
        refine acons ?_
        refine ev 3 ?_
        refine wa_nil ?_
        refine ⟨kn, _, m, rfl, by omega, by omega, h1, h3, ?_⟩
        refine we_bin ?_
        refine ev 3 ?_
        refine esubO 6 ?_
        refine ev 9 ?_
        refine ⟨_, _, _, rfl, rfl, atI_many seen m hjm, ?_⟩
        simp_wf
        simp_wf
        refine ⟨⟨_, rfl⟩, ?_⟩
        refine ev 8 ?_
        refine ⟨_, _, rfl, rfl, sz_lt (by rw [List.length_map]; omega), ?_⟩
        have hv : newV kn m seen x = nwM kn m (j : Int) + (m : Int) * ((cnt seen m (j : Int) : Nat) : Int) := by unfold newV; rw [hj]
        rw [put_seen _ _ _ hl, ← hv]
        refine wss_one ?_
        refine sputO 6 ?_
        refine we_bin ?_
        refine esubO 6 ?_
        refine ev 9 ?_
        refine ⟨_, _, _, rfl, rfl, atI_many seen m hjm, ?_⟩
        refine we_int ?_
        simp_wf
        refine ⟨⟨_, rfl⟩, ?_⟩
        refine ev 9 ?_
        refine ⟨j, _, rfl, rfl, by rw [List.length_map, List.length_range]; exact hjm, ?_⟩
        rw [many_snoc seen m x (newV kn m seen x) hj hjm]
        refine wss_one ?_
        refine sexpr ?_
        refine eapp 5 ?_
        refine acons ?_
        refine egetD 4 ?_
        refine ev 8 ?_
        refine ⟨_, _, _, rfl, rfl, (by rw [lkI_seen, lk_snoc _ _ _ hl]; rfl), ?_⟩
        refine wa_nil ?_
        refine ⟨_, _, rfl, rfl, sz_lt (by rw [List.length_map]; omega), ?_⟩
        exact ⟨seen ++ [(x, newV kn m seen x)], cells ++ [newV kn m seen x], _, _, _, nxt (by unfold kstep; rw [if_neg (by rw [ho]; decide), hl]), by rw [List.map_append]; rfl⟩
  · obtain ⟨seen, cells, y7, y8, y9, hst, rfl⟩ := hI
    have hzl : (p.2.zip fl).length = p.2.length := by rw [List.length_zip, hfl, Nat.min_self]
    rw [List.length_range, List.take_of_length_le (by omega)] at hst
    refine sfreeze 5 ?_
    refine wss_one ?_
    refine ws_ret ?_
    refine we_tup ?_
    refine acons ?_
    refine esub ?_
    refine ev 0 ?_
    refine we_int ?_
    simp_wf
    refine acons ?_
    refine ecT bt_tuple ?_
    refine acons ?_
    refine ev 5 ?_
    refine wa_nil ?_
    simp_wf
    refine wa_nil ?_
    refine ⟨sz_le (Nat.le_of_ble_eq_true rfl), ?_⟩
    have e : cells = kindM kn m p.2 fl := by unfold kindM; rw [← hst]
    rw [e]
    exact h
end
end K01

namespace K01
open PySem PySem.Spec PyProof.Rows L2 DL
/-! ### the greatest -/
theorem fold_mx : ∀ (xs : List Int) (a : Int), (xs.foldl (fun a y => if a < y then y else a) a = a ∨ xs.foldl (fun a y => if a < y then y else a) a ∈ xs) ∧ a ≤ xs.foldl (fun a y => if a < y then y else a) a ∧ ∀ x ∈ xs, x ≤ xs.foldl (fun a y => if a < y then y else a) a
  | [], a => ⟨.inl rfl, Int.le_refl _, by simp⟩
  | x :: xs, a => by
    obtain ⟨h1, h2, h3⟩ := fold_mx xs (if a < x then x else a)
    rw [List.foldl_cons]
    have hx : x ≤ (if a < x then x else a) ∧ a ≤ (if a < x then x else a) := by split <;> omega
    refine ⟨?_, by omega, fun y hy => ?_⟩
    · rcases h1 with h1 | h1
      · rw [h1]
        split
        · exact .inr (by simp)
        · exact .inl rfl
      · exact .inr (List.mem_cons_of_mem _ h1)
    · rcases List.mem_cons.mp hy with rfl | hy
      · omega
      · exact h3 y hy
theorem mx_mem (d : Int) {xs : List Int} (h : xs ≠ []) : mxD d xs ∈ xs ∧ ∀ x ∈ xs, x ≤ mxD d xs := by
  match xs, h with
  | x :: xs, _ =>
    obtain ⟨h1, h2, h3⟩ := fold_mx xs x
    refine ⟨?_, fun y hy => ?_⟩
    · rcases h1 with h1 | h1
      · show xs.foldl _ x ∈ _
        rw [h1]; simp
      · exact List.mem_cons_of_mem _ h1
    · rcases List.mem_cons.mp hy with rfl | hy
      · exact h2
      · exact h3 y hy
theorem mx_congr (d : Int) {a b : List Int} (h : ∀ x, x ∈ a ↔ x ∈ b) : mxD d a = mxD d b := by
  by_cases e : a = []
  · subst e
    have : b = [] := List.eq_nil_iff_forall_not_mem.mpr fun x hx => by have := (h x).mpr hx; simp at this
    rw [this]
  · have e2 : b ≠ [] := fun z => e (List.eq_nil_iff_forall_not_mem.mpr fun x hx => by have := (h x).mp hx; rw [z] at this; simp at this)
    obtain ⟨a1, a2⟩ := mx_mem d e
    obtain ⟨b1, b2⟩ := mx_mem d e2
    have := a2 _ ((h _).mpr b1)
    have := b2 _ ((h _).mp a1)
    omega
theorem kn_low {kn : List Int} {x : Int} (h : x ∈ kn) : x < lowM kn := by
  have ne : kn ≠ [] := fun z => by rw [z] at h; cases h
  have := (mx_mem (-1) ne).2 x h
  unfold lowM
  omega
section
variable {kn kp : List Int} {m : Nat}
theorem first_at (h1 : 1 ≤ m) (h3 : m ≤ 3) {r : Int} (r0 : 0 ≤ r) (r1 : r < m) : lowM kn ≤ nwM kn m r ∧ nwM kn m r < lowM kn + m ∧ nwM kn m r % (m : Int) = r ∧ ∀ v, lowM kn ≤ v → v % (m : Int) = r → nwM kn m r ≤ v := by
  unfold nwM
  generalize lowM kn = low
  have : m = 1 ∨ m = 2 ∨ m = 3 := by omega
  rcases this with rfl | rfl | rfl
  · exact ⟨by omega, by omega, by omega, fun v _ _ => by omega⟩
  · exact ⟨by omega, by omega, by omega, fun v _ _ => by omega⟩
  · exact ⟨by omega, by omega, by omega, fun v _ _ => by omega⟩
theorem rest_ok (h1 : 1 ≤ m) (x : Int) : 0 ≤ x % (m : Int) ∧ x % (m : Int) < m := ⟨Int.emod_nonneg x (by omega), Int.emod_lt_of_pos x (by omega)⟩
/-- what holds behind each cell -/
structure Iv (kn : List Int) (m : Nat) (s : List (Int × Int) × List Int) (k : Nat) : Prop where
  new : ∀ r : Int, 0 ≤ r → r < m → ∀ v, (v ∈ s.2 ∧ lowM kn ≤ v ∧ v % (m : Int) = r) ↔ ∃ j : Nat, j < cnt s.1 m r ∧ v = nwM kn m r + m * (j : Int)
  met : ∀ x v, lk s.1 x = some v → v ∈ s.2 ∧ lowM kn ≤ v ∧ v % (m : Int) = x % (m : Int)
  few : ∀ r, cnt s.1 m r ≤ k
theorem Iv.nil : Iv kn m ([], []) 0 := ⟨fun r _ _ v => by simp [cnt], fun x v h => by simp [lk] at h, fun r => by simp [cnt]⟩
theorem Iv.old {s : List (Int × Int) × List Int} {k : Nat} (I : Iv kn m s k) {x : Int} (hx : x < lowM kn ∨ x ∈ s.2) (k2 : Nat) (hk : k ≤ k2) : Iv kn m (s.1, s.2 ++ [x]) k2 := by
  refine ⟨fun r r0 r1 v => ?_, fun y v h => ?_, fun r => Nat.le_trans (I.few r) hk⟩
  · rw [← I.new r r0 r1 v]
    constructor
    · rintro ⟨a, b, c⟩
      rcases List.mem_append.mp a with a | a
      · exact ⟨a, b, c⟩
      · have : v = x := by simpa using a
        subst this
        rcases hx with hx | hx
        · omega
        · exact ⟨hx, b, c⟩
    · rintro ⟨a, b, c⟩
      exact ⟨List.mem_append_left _ a, b, c⟩
  · obtain ⟨a, b, c⟩ := I.met y v h
    exact ⟨List.mem_append_left _ a, b, c⟩
theorem lk_app (seen : List (Int × Int)) (x v y : Int) : lk (seen ++ [(x, v)]) y = (lk seen y).or (if x = y then some v else none) := by
  unfold lk
  rw [List.find?_append]
  cases seen.find? fun e => decide (e.1 = y) with
  | some e => rfl
  | none =>
    by_cases h : x = y
    · simp [h]
    · simp [h]
theorem newV_mod (h1 : 1 ≤ m) (h3 : m ≤ 3) (seen : List (Int × Int)) (x : Int) : newV kn m seen x % (m : Int) = x % (m : Int) ∧ lowM kn ≤ newV kn m seen x := by
  obtain ⟨a, b⟩ := rest_ok h1 x
  obtain ⟨c, _, e, _⟩ := first_at (kn := kn) h1 h3 a b
  unfold newV
  refine ⟨by rw [Int.add_mul_emod_self_left, e], ?_⟩
  have : 0 ≤ (m : Int) * ((cnt seen m (x % (m : Int)) : Nat) : Int) := Int.mul_nonneg (by omega) (by omega)
  omega
theorem Iv.fresh (h1 : 1 ≤ m) (h3 : m ≤ 3) {s : List (Int × Int) × List Int} {k : Nat} (I : Iv kn m s k) {x : Int} (hx : lk s.1 x = none) : Iv kn m (s.1 ++ [(x, newV kn m s.1 x)], s.2 ++ [newV kn m s.1 x]) (k + 1) := by
  obtain ⟨n1, n2⟩ := newV_mod (kn := kn) h1 h3 s.1 x
  refine ⟨fun r r0 r1 v => ?_, fun y v h => ?_, fun r => ?_⟩
  · rw [cnt_snoc]
    constructor
    · rintro ⟨a, b, c⟩
      rcases List.mem_append.mp a with a | a
      · obtain ⟨j, hj, e⟩ := (I.new r r0 r1 v).mp ⟨a, b, c⟩
        exact ⟨j, by omega, e⟩
      · have : v = newV kn m s.1 x := by simpa using a
        subst this
        rw [n1] at c
        refine ⟨cnt s.1 m r, by rw [if_pos c]; omega, ?_⟩
        unfold newV
        rw [c]
    · rintro ⟨j, hj, e⟩
      by_cases hjc : j < cnt s.1 m r
      · obtain ⟨a, b, c⟩ := (I.new r r0 r1 v).mpr ⟨j, hjc, e⟩
        exact ⟨List.mem_append_left _ a, b, c⟩
      · by_cases c : x % (m : Int) = r
        · rw [if_pos c] at hj
          have : j = cnt s.1 m r := by omega
          have e2 : v = newV kn m s.1 x := by
            rw [e, this]
            unfold newV
            rw [c]
          rw [e2]
          exact ⟨by simp, n2, by rw [n1, c]⟩
        · rw [if_neg c] at hj
          omega
  · show v ∈ s.2 ++ [_] ∧ _
    have h : (lk s.1 y).or (if x = y then some (newV kn m s.1 x) else none) = some v := by rw [← lk_app]; exact h
    cases q : lk s.1 y with
    | some u =>
      rw [q] at h
      cases h
      obtain ⟨a, b, c⟩ := I.met y v q
      exact ⟨List.mem_append_left _ a, b, c⟩
    | none =>
      rw [q] at h
      by_cases e : x = y
      · rw [if_pos e] at h
        cases h
        subst e
        exact ⟨by simp, n2, n1⟩
      · rw [if_neg e] at h
        cases h
  · rw [cnt_snoc]
    have := I.few r
    split <;> omega
/-- the used ones of a rest -/
theorem used_eq (hK : ∀ x, x ∈ kp ↔ x ∈ kn) (h1 : 1 ≤ m) (h3 : m ≤ 3) {s : List (Int × Int) × List Int} {k : Nat} (I : Iv kn m s k) {r : Int} (r0 : 0 ≤ r) (r1 : r < m) : nwM kp m r = nwM kn m r ∧ usedM s.2 kp m r = (List.range (cnt s.1 m r)).map fun j : Nat => nwM kn m r + m * (j : Int) := by
  have el : lowM kp = lowM kn := by unfold lowM; rw [mx_congr (-1) hK]
  have en : nwM kp m r = nwM kn m r := by unfold nwM; rw [el]
  obtain ⟨f1, f2, f3, f4⟩ := first_at (kn := kn) h1 h3 r0 r1
  refine ⟨en, asc_eq (used_asc _ _ _ _) ?_ fun x => ?_⟩
  · rw [List.pairwise_map]
    refine List.pairwise_lt_range.imp fun {a b} h => ?_
    have : (m : Int) * (a : Int) < (m : Int) * (b : Int) := Int.mul_lt_mul_of_pos_left (by omega) (by omega)
    omega
  · rw [used_mem, en, List.mem_map]
    have := I.new r r0 r1 x
    constructor
    · rintro ⟨a, b, c⟩
      obtain ⟨j, hj, e⟩ := this.mp ⟨a, by omega, c⟩
      exact ⟨j, List.mem_range.mpr hj, e.symm⟩
    · rintro ⟨j, hj, e⟩
      obtain ⟨a, b, c⟩ := this.mpr ⟨j, List.mem_range.mp hj, e.symm⟩
      exact ⟨a, f4 x b c, c⟩
def fit (kn : List Int) (c x : Int) : Prop := c = -1 ∨ 0 ≤ c ∧ c ∈ kn ∧ x = c
def stars1 (c : Int) : Nat := if c = -1 then 1 else 0
theorem mem_cho {left : List Int} {x : Int} (r : Nat) (hr : r < m) (h : x ∈ chrM left kp m r) : x ∈ choM left kp m := List.mem_flatMap.mpr ⟨r, List.mem_range.mpr hr, h⟩
theorem stepA (hK : ∀ x, x ∈ kp ↔ x ∈ kn) (h1 : 1 ≤ m) (h3 : m ≤ 3) {s : List (Int × Int) × List Int} {k : Nat} (I : Iv kn m s k) {c x : Int} (hc : fit kn c x) :
    (kstep kn m s (c, x)).2 ∈ stepT kp m c s.2 ∧ Iv kn m (kstep kn m s (c, x)) (k + stars1 c) := by
  rcases hc with rfl | ⟨c0, ck, rfl⟩
  · have es : stepT kp m (-1) s.2 = (kp ++ choM s.2 kp m).map fun x => s.2 ++ [x] := by unfold stepT; rw [if_pos rfl]
    have ek : stars1 (-1) = 1 := rfl
    rw [es, ek]
    unfold kstep
    have eo : old kn (-1, x) = decide (x ∈ kn) := by
      unfold old
      show (decide ((0 : Int) ≤ -1) || decide (x ∈ kn)) = _
      rw [decide_eq_false (by omega), Bool.false_or]
    rw [eo]
    by_cases hx : x ∈ kn
    · rw [if_pos (decide_eq_true hx)]
      exact ⟨List.mem_map.mpr ⟨x, List.mem_append_left _ ((hK x).mpr hx), rfl⟩, I.old (.inl (kn_low hx)) _ (Nat.le_succ k)⟩
    · rw [if_neg (by rw [decide_eq_false hx]; decide)]
      obtain ⟨x0, x1⟩ := rest_ok h1 x
      have hcast : (((x % (m : Int)).toNat : Nat) : Int) = x % (m : Int) := by omega
      cases hl : lk s.1 x with
      | some v =>
        obtain ⟨a, b, e⟩ := I.met x v hl
        refine ⟨List.mem_map.mpr ⟨v, List.mem_append_right _ (mem_cho (x % (m : Int)).toNat (by omega) (List.mem_append_left _ ?_)), rfl⟩, I.old (.inr a) _ (Nat.le_succ k)⟩
        rw [hcast, used_mem, (used_eq hK h1 h3 I x0 x1).1]
        exact ⟨a, (first_at (kn := kn) h1 h3 x0 x1).2.2.2 v b e, e⟩
      | none =>
        refine ⟨List.mem_map.mpr ⟨newV kn m s.1 x, List.mem_append_right _ (mem_cho (x % (m : Int)).toNat (by omega) (List.mem_append_right _ ?_)), rfl⟩, I.fresh h1 h3 hl⟩
        obtain ⟨u1, u2⟩ := used_eq hK h1 h3 I x0 x1
        rw [hcast, u1, u2, List.length_map, List.length_range]
        unfold newV
        simp
  · have es : stepT kp m x s.2 = [s.2 ++ [x]] := by unfold stepT; rw [if_neg (by omega)]
    rw [es]
    unfold kstep
    rw [if_pos (by unfold old; rw [decide_eq_true c0]; rfl)]
    exact ⟨by simp, I.old (.inl (kn_low ck)) _ (Nat.le_add_right _ _)⟩
/-- a row that is its own kind -/
structure Jv (kn : List Int) (s : List (Int × Int) × List Int) : Prop where
  all : ∀ v ∈ s.2, lowM kn ≤ v → lk s.1 v = some v
  self : ∀ x v, lk s.1 x = some v → v = x
theorem stepB (hK : ∀ x, x ∈ kp ↔ x ∈ kn) (h1 : 1 ≤ m) (h3 : m ≤ 3) {s : List (Int × Int) × List Int} {k : Nat} (I : Iv kn m s k) (J : Jv kn s) {c : Int} (hc : c = -1 ∨ 0 ≤ c ∧ c ∈ kn) {y : List Int} (hy : y ∈ stepT kp m c s.2) :
    ∃ x, y = s.2 ++ [x] ∧ fit kn c x ∧ (kstep kn m s (c, x)).2 = y ∧ Jv kn (kstep kn m s (c, x)) ∧ (c = -1 → x ∈ kn ∨ lowM kn ≤ x ∧ x < lowM kn + m * ((k + 1 : Nat) : Int)) := by
  have oldJ : ∀ x, x < lowM kn → Jv kn (s.1, s.2 ++ [x]) := fun x hx => ⟨fun v hv hl => by
    rcases List.mem_append.mp hv with hv | hv
    · exact J.all v hv hl
    · have : v = x := by simpa using hv
      omega, J.self⟩
  rcases hc with rfl | ⟨c0, ck⟩
  · have es : stepT kp m (-1) s.2 = (kp ++ choM s.2 kp m).map fun x => s.2 ++ [x] := by unfold stepT; rw [if_pos rfl]
    rw [es] at hy
    obtain ⟨x, hx, rfl⟩ := List.mem_map.mp hy
    have eo : old kn (-1, x) = decide (x ∈ kn) := by
      unfold old
      show (decide ((0 : Int) ≤ -1) || decide (x ∈ kn)) = _
      rw [decide_eq_false (by omega), Bool.false_or]
    refine ⟨x, rfl, .inl rfl, ?_⟩
    unfold kstep
    rw [eo]
    by_cases hk : x ∈ kn
    · rw [if_pos (decide_eq_true hk)]
      exact ⟨rfl, oldJ x (kn_low hk), fun _ => .inl hk⟩
    · rw [if_neg (by rw [decide_eq_false hk]; decide)]
      have hx : x ∈ choM s.2 kp m := (List.mem_append.mp hx).resolve_left fun z => hk ((hK x).mp z)
      obtain ⟨r, hr, hx⟩ := List.mem_flatMap.mp hx
      have hr := List.mem_range.mp hr
      have r0 : (0 : Int) ≤ (r : Int) := by omega
      have r1 : (r : Int) < (m : Int) := by omega
      obtain ⟨f1, f2, f3, f4⟩ := first_at (kn := kn) h1 h3 r0 r1
      obtain ⟨u1, u2⟩ := used_eq hK h1 h3 I r0 r1
      have hfew := I.few (r : Int)
      have bnd : ∀ j : Nat, j ≤ cnt s.1 m (r : Int) → nwM kn m (r : Int) + m * (j : Int) < lowM kn + m * ((k + 1 : Nat) : Int) := fun j hj => by
        have : (m : Int) * (j : Int) ≤ (m : Int) * (k : Int) := Int.mul_le_mul_of_nonneg_left (by omega) (by omega)
        rw [Int.natCast_add, Int.mul_add]
        omega
      unfold chrM at hx
      rcases List.mem_append.mp hx with hx | hx
      · rw [u2] at hx
        obtain ⟨j, hj, e⟩ := List.mem_map.mp hx
        have hj := List.mem_range.mp hj
        obtain ⟨a, b, d⟩ := (I.new r r0 r1 x).mpr ⟨j, hj, e.symm⟩
        have hl := J.all x a b
        rw [hl]
        refine ⟨rfl, ⟨fun v hv hlv => ?_, J.self⟩, fun _ => .inr ⟨b, by rw [← e]; exact bnd j (by omega)⟩⟩
        rcases List.mem_append.mp hv with hv | hv
        · exact J.all v hv hlv
        · have : v = x := by simpa using hv
          rw [this]
          exact hl
      · rw [u1, u2, List.length_map, List.length_range] at hx
        have e : x = nwM kn m (r : Int) + m * ((cnt s.1 m (r : Int) : Nat) : Int) := by simpa using hx
        have em : x % (m : Int) = r := by rw [e, Int.add_mul_emod_self_left, f3]
        have hlow : lowM kn ≤ x := by
          have : 0 ≤ (m : Int) * ((cnt s.1 m (r : Int) : Nat) : Int) := Int.mul_nonneg (by omega) (by omega)
          omega
        have hn : lk s.1 x = none := by
          cases q : lk s.1 x with
          | none => rfl
          | some v =>
            have : v = x := J.self x v q
            subst this
            obtain ⟨a, b, d⟩ := I.met v v q
            obtain ⟨j, hj, e2⟩ := (I.new r r0 r1 v).mp ⟨a, b, em⟩
            have : (m : Int) * (j : Int) < (m : Int) * ((cnt s.1 m (r : Int) : Nat) : Int) := Int.mul_lt_mul_of_pos_left (by omega) (by omega)
            omega
        have ev : newV kn m s.1 x = x := by unfold newV; rw [em]; exact e.symm
        rw [hn]
        refine ⟨by rw [ev], ⟨fun v hv hlv => ?_, fun y v hy => ?_⟩, fun _ => .inr ⟨hlow, by rw [e]; exact bnd _ (Nat.le_refl _)⟩⟩
        · show lk (s.1 ++ [_]) v = _
          rw [lk_app, ev]
          rcases List.mem_append.mp hv with hv | hv
          · rw [J.all v hv hlv]; rfl
          · have : v = newV kn m s.1 x := by simpa using hv
            rw [this, ev, hn, if_pos rfl]
            rfl
        · have hy : lk (s.1 ++ [(x, newV kn m s.1 x)]) y = some v := hy
          rw [lk_app, ev] at hy
          cases q : lk s.1 y with
          | some u =>
            rw [q] at hy
            cases hy
            exact J.self y v q
          | none =>
            rw [q] at hy
            by_cases w : x = y
            · rw [if_pos w] at hy
              cases hy
              exact w
            · rw [if_neg w] at hy
              cases hy
  · have es : stepT kp m c s.2 = [s.2 ++ [c]] := by unfold stepT; rw [if_neg (by omega)]
    rw [es] at hy
    have hy : y = s.2 ++ [c] := by simpa using hy
    refine ⟨c, hy, .inr ⟨c0, ck, rfl⟩, ?_⟩
    unfold kstep
    rw [if_pos (by unfold old; rw [decide_eq_true c0]; rfl)]
    exact ⟨hy.symm, oldJ c (kn_low ck), fun z => by omega⟩
end
end K01

namespace DL
open PySem PySem.Spec PyProof.Rows L2
/-! ### t.count(k), ints -/
def eqIv (k : Int) : Value → Bool
  | .int j _ => j == k
  | _ => false
def rCntT (K : PySem.W.Frag) : V → List V → Hp → VK → Prop := fun x xs H Q => ∃ (p : Addr) (ns : List Int) (k : Int), x = .ref p ∧ xs = [.int k] ∧ SqT K H p (ns.map V.int) ∧ Q (.int (ns.count k : Nat)) H
theorem count_eqIv (k : Int) : ∀ {ns : List Int} {us : List Value}, Vals (ns.map V.int) us → us.countP (eqIv k) = ns.count k
  | [], _, .nil => rfl
  | n :: ns, _, .cons r t => by
    obtain ⟨tk, rfl⟩ := r
    have ih := count_eqIv k (ns := ns) t
    rw [List.countP_cons, ih, List.count_cons]
    rfl
theorem int_each : ∀ {ns : List Int} {us : List Value}, Vals (ns.map V.int) us → ∀ u ∈ us, ∃ j t, u = Value.int j t
  | [], _, .nil, _, h => by cases h
  | n :: ns, _, .cons r t, u, h => by
    obtain ⟨tk, rfl⟩ := r
    rcases List.mem_cons.mp h with rfl | h
    · exact ⟨_, _, rfl⟩
    · exact int_each (ns := ns) t u h
theorem mt_tcountI {X : Cx} : MtR X "tuple.count" (rCntT X.K) := by
  intro pins s σ H x xs v us Q I rx rxs h
  obtain ⟨p, ns, k, rfl, rfl, hs, q⟩ := h
  cases rx
  obtain ⟨u, rfl, t, rfl⟩ := vals1 rxs
  obtain ⟨its, rv, pl, hz⟩ := I.tuple hs
  obtain ⟨⟨cls, dd, dt, sl⟩, ho, hc, n, hd⟩ := pl
  simp only at hc hd
  subst hc
  subst hd
  refine call_meets PySem.F.slot_tuple_count ⟨_, ho, rfl⟩ PySem.F.entry_tuple_count (PySem.F.args_tuple_count_2 _ _) (SeqAt.tuple_countAt p its.toArray n dd sl (.int k t) (eqIv k)) ⟨ho, fun y hy => ?_, ?_⟩
  · obtain ⟨j, t', rfl⟩ := int_each rv y (by simpa using hy)
    exact SeqAt.EqAt.int_int j t' k t
  · refine ⟨.int (ns.count k : Nat), H, I.tok _, ⟨s.toks, ?_⟩, q⟩
    show Value.int ((its.countP (eqIv k) : Nat) : Int) s.toks = _
    rw [count_eqIv k rv]
/-- tuple(a list): the new object is known -/
def rTupF (X : Cx) : List V → Hp → VK → Prop := fun vs H Q => ∃ (l : Addr) (xs : List V), vs = [.ref l] ∧ SqL X.K H l xs ∧ ∀ (p : Addr) (ob : Obj), H p = none → ob.dict = none → ob.cls = .type "tuple" → (∀ o' u', X.H_0 p ≠ some (.frz o' u')) → Q (.ref p) (upd H p (.frz ob (.tup xs)))
theorem cr_tupF {X : Cx} : CallR X (.type "tuple") (rTupF X) := by
  intro pins s σ H vs us Q I r h
  obtain ⟨l, xs, rfl, hq, q⟩ := h
  obtain ⟨u, rfl, ru⟩ := vals1 r
  obtain rfl : u = Value.ref l := ru
  obtain ⟨its, r', pl, hz⟩ := I.list hq
  have hlen := r'.length
  refine call_tuple_list pl.isList (fun h' kp => ?_) (by simp only [List.size_toArray] <;> omega)
  have I1 : Inv X pins σ H { s with heap := h' } := I.kept (t' := s.toks) kp
  have fresh := I1.hok.fresh (Nat.le_refl (Shared.heap { s with heap := h' }).objs.size)
  have e0 := Heap.get?_push_size h' (o := { cls := .type "tuple", data := .seq its.toArray }) rfl
  have ok0 : ObjOk X.prog X.w (upd H h'.objs.size (.frz { cls := .type "tuple", data := .seq its.toArray } (.tup xs))) (h'.push { cls := .type "tuple", data := .seq its.toArray }) h'.objs.size (.frz { cls := .type "tuple", data := .seq its.toArray } (.tup xs)) := ⟨e0, hz, its, r', IsTup.new _ _⟩
  refine ⟨.ref h'.objs.size, _, I1.laid (t' := s.toks) (fun b o e => Heap.get?_push_of_some _ e) (Nat.le_refl _) ok0, rfl, q _ _ fresh rfl rfl fun o' u' e => ?_⟩
  have := I1.base.frzs _ o' u' e
  rw [fresh] at this
  cases this
def tCntF (X : Cx) (to : TE) (t : TA) : TE := fun σ H Q => to σ H fun v H1 => (∃ (p : Addr) (ob : Obj) (xs : List V), v = .ref p ∧ H1 p = some (.frz ob (.tup xs)) ∧ ob.dict = none ∧ ob.cls = .type "tuple") ∧ t σ H1 fun vs H2 => ∃ (p : Addr) (ob : Obj) (ns : List Int) (k : Int), v = .ref p ∧ vs = [.int k] ∧
  H2 p = some (.frz ob (.tup (ns.map V.int))) ∧ (∀ o' u', X.H_0 p ≠ some (.frz o' u')) ∧ Q (.int (ns.count k : Nat)) (upd H2 p (.tup (ns.map V.int)))
theorem pe_cntF {X : Cx} {apos cpos : Pos} {e o : Expr} {es : List Expr} {to : TE} {t : TA} (ho : PE X o to) (ha : PA X (e :: es) t)
    (hbase : attributeBase o "count" X.env (eval o X.env) = eval o X.env)
    (hfew : ((backTo cpos (starEach (e :: es) X.env)).all (fun x => !x.1) && (backToKw cpos (keywordEach [] X.env)).all (fun x => x.1.isSome)
      && decide ((e :: es).length + ([] : List Keyword).length + (if ([] : List Keyword).isEmpty then 0 else 1) < 30)) = true)
    (hline : (apos.endLine == cpos.line) = true) (hs : starEach (e :: es) X.env = (false, eval e X.env) :: starEach es X.env) (hplain : (backTo cpos (starEach es X.env)).any (·.1) = false) :
    PE X (.Call (.Attribute o "count" apos) (e :: es) [] cpos) (tCntF X to t) := by
  refine ⟨fun pins s σ H Q I h => ?_⟩
  refine wpAny_Call_method_late hbase hfew hline rfl (thn (ho.run pins s σ H _ I h) fun v s1 ⟨x, H1, I1, r1, ty, q1⟩ => ?_)
  obtain ⟨p, ob, xs, rfl, hp, hd, hc⟩ := ty
  cases r1
  have hg := (I1.hok p _ hp).1
  refine ⟨"tuple", "tuple.count", PySem.F.plainAttrs_tuple, PySem.F.slot_tuple_count, PySem.F.type_tuple_count, ⟨ob, hg, hc⟩, fun a ea => ⟨ob, by cases ea; exact hg, hd⟩, ?_⟩
  have hA := ha.run cpos pins s1 σ H1 _ I1 q1
  rw [hs] at hA ⊢
  refine Calls.callWith_builtin (by show (false || (backTo cpos (starEach es X.env)).any (·.1)) = false; rw [hplain] <;> rfl) (Calls.evalArgs_plain ?_)
  refine thn hA fun us s2 ⟨vs, H2, I2, r2, q2⟩ => ?_
  obtain ⟨p2, ob2, ns, k, e1, rfl, hp2, hn, q2⟩ := q2
  cases e1
  refine thn (mt_tcountI pins s2 σ H2 (.ref p) [.int k] (.ref p) us (fun z H' => z = .int (ns.count k : Nat) ∧ H' = H2) I2 rfl r2 ⟨p, ns, k, rfl, rfl, .inl (.inr ⟨ob2, hp2⟩), rfl, rfl⟩) fun z s3 ⟨zv, H3, I3, r3, ez, eh⟩ => ?_
  subst ez
  subst eh
  exact ⟨_, _, I3.unlock hp2 hn, r3, q2⟩
theorem upd_swap {H : Hp} {p t : Addr} {o1 o2 o3 : HO} (n : t ≠ p) : upd (upd (upd H p o1) t o2) p o3 = upd (upd H p o3) t o2 := by
  funext b
  by_cases e1 : b = p
  · subst e1
    rw [upd_same, upd_ne (Ne.symm n), upd_same]
  · rw [upd_ne e1]
    by_cases e2 : b = t
    · subst e2
      rw [upd_same, upd_same]
    · rw [upd_ne e2, upd_ne e2, upd_ne e1, upd_ne e1]
section
variable {X : Cx} {G : Cls} {ρ : En}
/-- x = (a, tuple(b)); y = x[1].count(-1) -/
theorem wss_patCount (i j : Nat) {P : Po} {a b : Expr} {x y tn : Str} {rest : List Stmt} {c1 c2 k0 : Nat} {p1 p2 p3 p4 p5 p6 p7 p8 p9 pA pB pS apos cpos : Pos}
    (h : WE X G a ρ fun d1 ρ1 => WF X G b ρ1 fun ds ρ2 => ∃ ns : List Int, ds = ns.map D.int ∧ ns.length ≤ 1000 ∧ WSs X G rest ((ρ2.set i (some (.dat (.tup [d1, tupI ns])))).set j (some (.dat (.int (ns.count (-1) : Nat))))) P)
    (hN : X.N.Nodup := by assumption) (hi : X.N[i]? = some x := by rfl) (hj : X.N[j]? = some y := by rfl) (hij : i ≠ j := by decide) (hilt : i < ρ.length := by decide) (hx : Loc X.env.scope x := by first | exact Or.inl rfl | exact Or.inr rfl) (hy : Loc X.env.scope y := by first | exact Or.inl rfl | exact Or.inr rfl) (hv : Vis X.env.scope x := by first | exact Or.inl rfl | exact Or.inr (Or.inl rfl) | exact Or.inr (Or.inr rfl))
    (hd : (x == ("__debug__" : Str)) = false := by decide) (hcd : (x == ("__classdict__" : Str)) = false := by decide) (hg : Gl X tn := by rfl) (hm : X.mg tn = none := by assumption) (hbt : bootBuiltins tn = some (.type "tuple") := by exact bt_tuple) (hn : tn ≠ "__name__" := by decide) (hdb : (tn == ("__debug__" : Str)) = false := by decide)
    (nb : starEach [b] X.env = (false, eval b X.env) :: starEach [] X.env := by rfl) (hpl : (backTo p3 (starEach [] X.env)).any (·.1) = false := by rfl)
    (na : starEach [a, .Call (.Name tn p2) [b] [] p3] X.env = (false, eval a X.env) :: starEach [.Call (.Name tn p2) [b] [] p3] X.env := by rfl) (na2 : starEach [.Call (.Name tn p2) [b] [] p3] X.env = (false, eval (.Call (.Name tn p2) [b] [] p3) X.env) :: starEach [] X.env := by rfl)
    (sw1 : swapsWith (.Tuple [a, .Call (.Name tn p2) [b] [] p3] k0 p4) (some (.Name x p1)) p5.line X.env = pure false := by rfl) (hf1 : X.fn x = true ∨ X.env.scope.names.lookup x = some .local := by first | exact Or.inl rfl | exact Or.inr rfl) (hf2 : X.fn y = true ∨ X.env.scope.names.lookup y = some .local := by first | exact Or.inl rfl | exact Or.inr rfl)
    (sw2 : swapsWith (.Call (.Attribute (.Subscript (.Name x p6) (.Constant (.int 1) c1 p7) p8) "count" apos) [.UnaryOp .USub (.Constant (.int 1) c2 p9) pA] [] cpos) (some (.Name y pB)) pS.line X.env = pure false := by rfl)
    (hbase : attributeBase (.Subscript (.Name x p6) (.Constant (.int 1) c1 p7) p8) "count" X.env (eval (.Subscript (.Name x p6) (.Constant (.int 1) c1 p7) p8) X.env) = eval (.Subscript (.Name x p6) (.Constant (.int 1) c1 p7) p8) X.env := by rfl)
    (hfew : ((backTo cpos (starEach [.UnaryOp .USub (.Constant (.int 1) c2 p9) pA] X.env)).all (fun x => !x.1) && (backToKw cpos (keywordEach [] X.env)).all (fun x => x.1.isSome)
      && decide (([.UnaryOp .USub (.Constant (.int 1) c2 p9) pA] : List Expr).length + ([] : List Keyword).length + (if ([] : List Keyword).isEmpty then 0 else 1) < 30)) = true := by rfl)
    (hline : (apos.endLine == cpos.line) = true := by rfl) (hs : starEach [.UnaryOp .USub (.Constant (.int 1) c2 p9) pA] X.env = (false, eval (.UnaryOp .USub (.Constant (.int 1) c2 p9) pA) X.env) :: starEach [] X.env := by rfl) (hplain : (backTo cpos (starEach [] X.env)).any (·.1) = false := by rfl) :
    WSs X G (.Assign [.Name x p1] (.Tuple [a, .Call (.Name tn p2) [b] [] p3] k0 p4) p5 :: .Assign [.Name y pB] (.Call (.Attribute (.Subscript (.Name x p6) (.Constant (.int 1) c1 p7) p8) "count" apos) [.UnaryOp .USub (.Constant (.int 1) c2 p9) pA] [] cpos) pS :: rest) ρ P := fun S H0 M0 σ H M R E k => by
  refine mSs_of (pss_cons (ps_set hN hi hx (pe_tup (pa_cons (pe_m X a) (pa_cons (pe_callTy cr_tupF hg hm hbt (pa_cons (pe_m X b) pa_nil nb) hn hdb nb hpl) pa_nil na2) na)) sw1 hf1) (pss_cons (ps_set hN hj hy (pe_cntF (pe_ix ix_tup (pe_var hi hv hd hcd) pe_int (fun _ _ => rfl)) (pa_cons (pe_un un_neg pe_int) pa_nil hs) hbase hfew hline hs hplain) sw2 hf2) (pss_m X rest))) ?_
  refine h S H0 M0 σ H M R _ fun v1 H1 M1 d1 ρ1 p1 R1 r1 w1 => w1 S H0 M0 σ H1 M1 R1 _ fun q vs H2 M2 ds ρ2 p2 R2 hq r2 w2 => ?_
  obtain ⟨ns, rfl, hnl, w⟩ := w2
  obtain rfl := rpA_ints r2
  refine ⟨q, ns.map V.int, rfl, .inl (.inl upd_same), fun p ob hp hd0 hc0 hn0 => ⟨sz_le (by show 2 ≤ 1000000; decide), fun t ht => ?_⟩⟩
  have ntp : t ≠ p := fun z => by rw [z, upd_same] at ht; cases ht
  have hil : i < σ.length := by rw [R.len]; exact hilt
  refine ⟨_, List.getElem?_set_self hil, ?_⟩
  refine ⟨t, [v1, .ref p], 1, .ref p, rfl, rfl, .inl (.inl upd_same), rfl, ?_⟩
  refine ⟨⟨p, ob, _, rfl, by rw [upd_ne (Ne.symm ntp), upd_same], hd0, hc0⟩, ?_⟩
  refine ⟨1, rfl, p, ob, ns, -1, rfl, rfl, by rw [upd_ne (Ne.symm ntp), upd_same], hn0, ?_⟩
  rw [upd_swap ntp]
  obtain ⟨RA, pA, _⟩ := R2.laid (o := .lst (ns.map V.int)) hq
  have ht2 : upd H2 q (.lst (ns.map V.int)) t = none := by rw [upd_ne ntp] at ht; exact ht
  obtain ⟨RB, pB, nB⟩ := RA.laid (o := .tup (ns.map V.int)) hp
  have ht3 : upd (upd H2 q (.lst (ns.map V.int))) p (.tup (ns.map V.int)) t = none := by rw [upd_ne ntp]; exact ht2
  obtain ⟨RC, pC, nC⟩ := RB.laid (o := .tup [v1, .ref p]) ht3
  have rt1 : Rp X.K G S M2 (upd (upd (upd H2 q (.lst (ns.map V.int))) p (.tup (ns.map V.int))) t (.tup [v1, .ref p])) (.ref p) (tupI ns) :=
    (Rp.tup (.inl ⟨nB, upd_same⟩) (rpA_of_ints _)).pre pC
  have rt2 : Rp X.K G S M2 (upd (upd (upd H2 q (.lst (ns.map V.int))) p (.tup (ns.map V.int))) t (.tup [v1, .ref p])) (.ref t) (.tup [d1, tupI ns]) :=
    .tup (.inl ⟨nC, upd_same⟩) (.cons (((r1.pre p2).pre pA |>.pre pB).pre pC) (.cons rt1 .nil))
  refine w S H0 M0 _ _ M2 ((RC.set rt2).set (.int _)) E (k.pre ((((p1.trans p2).trans pA).trans pB).trans pC))
end
end DL
namespace K01
open PySem PySem.Spec PyProof.Rows L2 DL
def chF (base : List Int) (c : Int) : List Int := if 0 ≤ c then [c] else base
def FM (base : List Int) (cells : List Int) : List (List Int) := cells.foldl (fun B c => B.flatMap fun l => (chF base c).map fun x => l ++ [x]) [[]]
theorem FM_snoc (base cells : List Int) (c : Int) : FM base (cells ++ [c]) = (FM base cells).flatMap fun l => (chF base c).map fun x => l ++ [x] := by
  unfold FM
  rw [List.foldl_append]
  rfl
def stars (cells : List Int) : Nat := (cells.map stars1).sum
theorem stars_snoc (cells : List Int) (c : Int) : stars (cells ++ [c]) = stars cells + stars1 c := by
  unfold stars
  rw [List.map_append, List.sum_append]
  simp
theorem zip_snoc {a b : List Int} {c x : Int} (h : b.length = a.length) : (a ++ [c]).zip (b ++ [x]) = a.zip b ++ [(c, x)] := by
  rw [List.zip_append h.symm]
  rfl
section
variable {kn kp base : List Int} {m S : Nat}
theorem partA (hK : ∀ x, x ∈ kp ↔ x ∈ kn) (h1 : 1 ≤ m) (h3 : m ≤ 3) : ∀ n (cells : List Int), cells.length = n → (∀ c ∈ cells, c = -1 ∨ 0 ≤ c ∧ c ∈ kn) → ∀ f ∈ FM base cells, f.length = n ∧ (krun kn m (cells.zip f)).2 ∈ TM kp m cells ∧ Iv kn m (krun kn m (cells.zip f)) (stars cells) := by
  intro n
  induction n with
  | zero =>
    intro cells hl _ f hf
    have : cells = [] := List.length_eq_zero_iff.mp hl
    subst this
    have : f = [] := by simpa [FM] using hf
    subst this
    exact ⟨rfl, by simp [krun, TM], Iv.nil⟩
  | succ n ih =>
    intro cells hl hc f hf
    rcases List.eq_nil_or_concat cells with rfl | ⟨pre, c, rfl⟩
    · cases hl
    · rw [List.concat_eq_append] at hl hc hf ⊢
      have hpl : pre.length = n := by simpa using hl
      rw [FM_snoc] at hf
      obtain ⟨f0, hf0, hf⟩ := List.mem_flatMap.mp hf
      obtain ⟨x, hx, rfl⟩ := List.mem_map.mp hf
      obtain ⟨i1, i2, i3⟩ := ih pre hpl (fun c hc' => hc c (by simp [hc'])) f0 hf0
      have fitc : fit kn c x := by
        rcases hc c (by simp) with e | ⟨c0, ck⟩
        · exact .inl e
        · refine .inr ⟨c0, ck, ?_⟩
          unfold chF at hx
          rw [if_pos c0] at hx
          simpa using hx
      obtain ⟨s1, s2⟩ := stepA hK h1 h3 i3 fitc
      rw [zip_snoc (by rw [i1, hpl]), krun_snoc, TM_snoc, stars_snoc]
      exact ⟨by simp [i1], List.mem_flatMap.mpr ⟨_, i2, s1⟩, s2⟩
theorem partB (hK : ∀ x, x ∈ kp ↔ x ∈ kn) (h1 : 1 ≤ m) (h3 : m ≤ 3) (hb : ∀ x, x ∈ kn ∨ lowM kn ≤ x ∧ x < lowM kn + m * (S : Int) → x ∈ base) : ∀ n (cells : List Int), cells.length = n → (∀ c ∈ cells, c = -1 ∨ 0 ≤ c ∧ c ∈ kn) → stars cells ≤ S → ∀ y ∈ TM kp m cells, y ∈ FM base cells ∧ y.length = n ∧ (krun kn m (cells.zip y)).2 = y ∧ Iv kn m (krun kn m (cells.zip y)) (stars cells) ∧ Jv kn (krun kn m (cells.zip y)) := by
  intro n
  induction n with
  | zero =>
    intro cells hl _ _ y hy
    have : cells = [] := List.length_eq_zero_iff.mp hl
    subst this
    have : y = [] := by simpa [TM] using hy
    subst this
    exact ⟨by simp [FM], rfl, rfl, Iv.nil, ⟨fun v hv => by simp [krun] at hv, fun x v h => by simp [krun, lk] at h⟩⟩
  | succ n ih =>
    intro cells hl hc hS y hy
    rcases List.eq_nil_or_concat cells with rfl | ⟨pre, c, rfl⟩
    · cases hl
    · rw [List.concat_eq_append] at hl hc hS hy ⊢
      have hpl : pre.length = n := by simpa using hl
      rw [stars_snoc] at hS ⊢
      rw [TM_snoc] at hy
      obtain ⟨y0, hy0, hy⟩ := List.mem_flatMap.mp hy
      obtain ⟨i1, i2, i3, i4, i5⟩ := ih pre hpl (fun c hc' => hc c (by simp [hc'])) (by omega) y0 hy0
      have hcc := hc c (by simp)
      obtain ⟨x, e, fitx, e2, J2, bx⟩ := stepB hK h1 h3 i4 i5 hcc (y := y) (by rw [i3]; exact hy)
      rw [i3] at e
      subst e
      have st := (stepA hK h1 h3 i4 fitx).2
      rw [zip_snoc (by rw [i2, hpl]), krun_snoc]
      refine ⟨?_, by simp [i2], e2, st, J2⟩
      rw [FM_snoc]
      refine List.mem_flatMap.mpr ⟨y0, i1, List.mem_map.mpr ⟨x, ?_, rfl⟩⟩
      unfold chF
      rcases fitx with rfl | ⟨c0, ck, rfl⟩
      · rw [if_neg (by omega)]
        refine hb x ?_
        rcases bx rfl with q | ⟨q1, q2⟩
        · exact .inl q
        · refine .inr ⟨q1, ?_⟩
          have : stars pre + 1 ≤ S := hS
          have : (m : Int) * ((stars pre + 1 : Nat) : Int) ≤ (m : Int) * (S : Int) := Int.mul_le_mul_of_nonneg_left (by omega) (by omega)
          omega
      · rw [if_pos c0]
        simp
theorem kinds_eq (hK : ∀ x, x ∈ kp ↔ x ∈ kn) (h1 : 1 ≤ m) (h3 : m ≤ 3) (hb : ∀ x, x ∈ kn ∨ lowM kn ≤ x ∧ x < lowM kn + m * (S : Int) → x ∈ base) {cells : List Int} (hc : ∀ c ∈ cells, c = -1 ∨ 0 ≤ c ∧ c ∈ kn) (hS : stars cells ≤ S) (y : List Int) : y ∈ TM kp m cells ↔ ∃ f ∈ FM base cells, y = kindM kn m cells f := by
  constructor
  · intro hy
    obtain ⟨i1, _, i3, _⟩ := partB hK h1 h3 hb _ cells rfl hc hS y hy
    exact ⟨y, i1, i3.symm⟩
  · rintro ⟨f, hf, rfl⟩
    exact (partA hK h1 h3 _ cells rfl hc f hf).2.1
theorem FM_each (base : List Int) : ∀ n (cells : List Int), cells.length = n → ∀ f ∈ FM base cells, f.length = n := by
  intro n
  induction n with
  | zero =>
    intro cells hl f hf
    have : cells = [] := List.length_eq_zero_iff.mp hl
    subst this
    have : f = [] := by simpa [FM] using hf
    subst this
    rfl
  | succ n ih =>
    intro cells hl f hf
    rcases List.eq_nil_or_concat cells with rfl | ⟨pre, c, rfl⟩
    · cases hl
    · rw [List.concat_eq_append] at hl hf
      rw [FM_snoc] at hf
      obtain ⟨f0, hf0, hf⟩ := List.mem_flatMap.mp hf
      obtain ⟨x, hx, rfl⟩ := List.mem_map.mp hf
      rw [List.length_append, ih pre (by simpa using hl) f0 hf0]
      rfl
theorem FM_len {B : Nat} (hB : base.length ≤ B) (hB1 : 1 ≤ B) : ∀ n (cells : List Int), cells.length = n → (FM base cells).length ≤ B ^ n := by
  intro n
  induction n with
  | zero =>
    intro cells hl
    have : cells = [] := List.length_eq_zero_iff.mp hl
    subst this
    simp [FM]
  | succ n ih =>
    intro cells hl
    rcases List.eq_nil_or_concat cells with rfl | ⟨pre, c, rfl⟩
    · cases hl
    · rw [List.concat_eq_append] at hl ⊢
      rw [FM_snoc, flatMap_len', Nat.pow_succ]
      refine Nat.mul_le_mul (ih pre (by simpa using hl)) ?_
      unfold chF
      split
      · simpa using hB1
      · exact hB
end
end K01

namespace K01
open PySem PySem.Spec PyProof.Rows L2 DL
theorem cut_take (xs : List D) (p : Nat) (h : p ≤ xs.length) : DL.cutD xs none (some (p : Int)) = xs.take p := by
  unfold DL.cutD
  rw [HT.sIx_none, HT.sIx_nat, Nat.min_eq_left h, List.drop_zero, Nat.sub_zero]
theorem stars_count (cells : List Int) : stars cells = cells.count (-1) := by
  unfold stars
  induction cells with
  | nil => rfl
  | cons c r ih =>
    rw [List.map_cons, List.sum_cons, ih, List.count_cons]
    unfold stars1
    by_cases h : c = -1
    · simp [h]; omega
    · simp [h]
theorem uniqP {a b : List (Int × List Int)} (ha : a.Pairwise fun x y => DL.ltP x y = true) (hb : b.Pairwise fun x y => DL.ltP x y = true) (h : ∀ x, x ∈ a ↔ x ∈ b) : a = b := by
  have nd : ∀ {l : List (Int × List Int)}, (l.Pairwise fun x y => DL.ltP x y = true) → l.Nodup := fun hl => hl.imp fun {x y} q e => by
    rw [e, skP.irr] at q
    cases q
  refine List.Perm.eq_of_pairwise (fun x y _ _ h1 h2 => ?_) ha hb ((List.perm_ext_iff_of_nodup (nd ha) (nd hb)).mpr h)
  have := swo_ltP.asym x y h1
  rw [h2] at this
  cases this
theorem rows_okn (out : List (Int × List Int)) : (D.tup (out.map pairI)).okn 3 := okn_tupM out (pairI_okn 0)
def unM (kn : List Int) : List Int := ded none (srtI kn)
theorem unM_mem (kn : List Int) (x : Int) : x ∈ unM kn ↔ x ∈ kn := by
  have h := (ded_strict skI (srtI kn) none (srtI_le _) (by simp)).2.2 x
  have p : (srtI kn).Perm kn := List.mergeSort_perm _ _
  unfold unM
  rw [h, p.mem_iff]
  simp
theorem unM_asc (kn : List Int) : (unM kn).Pairwise (· < ·) := (ded_strict skI _ none (srtI_le _) (by simp)).1.imp fun h => of_decide_eq_true h
theorem unM_len (kn : List Int) : (unM kn).length ≤ kn.length := by
  refine Nat.le_trans (ded_len _ _) ?_
  have p : (srtI kn).Perm kn := List.mergeSort_perm _ _
  rw [p.length_eq]
  exact Nat.le_refl _
def freM (kn : List Int) (m S : Nat) : List Int := (List.range (m * S)).map fun i : Nat => mxD (-1) kn + 1 + (i : Int)
def basM (kn : List Int) (m S : Nat) : List Int := unM kn ++ freM kn m S
theorem bas_in {kn : List Int} {m S : Nat} (x : Int) (h : x ∈ kn ∨ lowM kn ≤ x ∧ x < lowM kn + m * (S : Int)) : x ∈ basM kn m S := by
  unfold basM
  rcases h with h | ⟨h1, h2⟩
  · exact List.mem_append_left _ ((unM_mem kn x).mpr h)
  · refine List.mem_append_right _ (List.mem_map.mpr ⟨(x - lowM kn).toNat, List.mem_range.mpr ?_, ?_⟩)
    · have : ((m * S : Nat) : Int) = (m : Int) * (S : Int) := Int.natCast_mul _ _
      omega
    · unfold lowM at *
      omega
theorem known_mem {given cells : List Int} (hc : ∀ c ∈ cells, c = -1 ∨ 0 ≤ c) (x : Int) : x ∈ given ++ cells.filter (fun c => decide (0 ≤ c) && !decide (c ∈ given)) ↔ x ∈ given ∨ x ∈ cells ∧ x ≠ -1 := by
  rw [List.mem_append, List.mem_filter]
  simp only [Bool.and_eq_true, decide_eq_true_eq, Bool.not_eq_true', decide_eq_false_iff_not]
  constructor
  · rintro (h | ⟨a, b, _⟩)
    · exact .inl h
    · exact .inr ⟨a, by omega⟩
  · rintro (h | ⟨a, b⟩)
    · exact .inl h
    · by_cases g : x ∈ given
      · exact .inl g
      · exact .inr ⟨a, (hc x a).resolve_left b, g⟩
local macro_rules | `(tactic| simp_wf) => `(tactic| first
  | refine bd_add ?_ | refine bd_sub ?_ | refine bd_lt ?_ | refine bd_le ?_ | refine bd_gt ?_ | refine bd_ge ?_ | refine bd_eqI ?_ | refine bd_neI ?_
  | refine bd_eqB ?_ | refine bd_neB ?_ | refine bd_eqS ?_ | refine bd_neS ?_
  | refine bd_isN ?_ | refine bd_notN ?_ | refine bd_isB ?_ | refine bd_notB ?_ | refine bd_isNB ?_ | refine bd_notNB ?_
  | refine bd_mod (by first | assumption | decide | omega) ?_
  | refine bd_mul (by first | assumption | exact .inl ⟨by decide, by decide⟩ | exact .inr ⟨by decide, by decide⟩ | exact .inl ⟨by omega, by omega⟩ | exact .inr ⟨by omega, by omega⟩) ?_
  | refine bd_fdiv (by first | assumption | exact ⟨by decide, by decide⟩) ?_
  | refine bd_pow (by first | assumption | exact ⟨by decide, by decide, by decide⟩) ?_
  | refine bd_shl (by first | assumption | exact ⟨by omega, by omega, by omega⟩) ?_
  | refine bd_shr (by first | assumption | decide | omega) ?_
  | refine bd_andI ?_ | refine bd_orI ?_ | refine bd_xorI ?_ | refine ud_neg ?_
  | refine cd_lenT ?_ | refine cd_lenL ?_ | refine cd_tupleL ?_ | refine cd_tupleT ?_ | refine cd_int ?_ | refine cd_max2 rfl ?_ | refine cd_min2 rfl ?_
  | refine cf_list (.inl rfl) ?_ | refine cf_list (.inr rfl) ?_
  | refine ix_tupD (by first | rfl | assumption) ?_ | refine ix_lstD (by first | rfl | assumption) ?_)
section
variable {P : Program} {w : World} {K : PySem.W.Frag} {mg : Str → Option Value} {base : Heap} {G : DL.Cls}
abbrev slaw : Stmt := topS 17
abbrev nlaw : List Str := ["_law_script", "_law_source_here", "_law_pool_here", "_law_width", "_law_place", "_law_pattern", "_law_k", "_law_stars", "_law_modulus", "_law_given", "_law_known", "_law_cell", "_law_rest", "_law_top", "_law_fresh", "_law_fillings", "_law_kinds", "_law_filling", "_law_handed", "_law_told"]
theorem sclaw : FnScope nlaw ["_law_script"] (defScope slaw) := ⟨rfl, rfl, rfl, by decide +kernel, rfl, by decide +kernel, by decide +kernel⟩
theorem rest_law {k m : Nat} {pool cells given kn : List Int} {wd pl : Int} (h1 : 1 ≤ m) (h3 : m ≤ 3) (hcl : cells.length ≤ 3) (hc : ∀ c ∈ cells, c = -1 ∨ 0 ≤ c) (hgl : given.length ≤ 3) (hkn : kn = given ++ cells.filter (fun c => decide (0 ≤ c) && !decide (c ∈ given)))
    (mr : mg "range" = none) (mL : mg "list" = none) (mt : mg "tuple" = none) (mx : mg "max" = none)
    (Fnew_worth : Fd P w K mg base G k "new_worth" 3 spnew_worth) (Ftypical : Fd P w K mg base G k "typical_rows" 3 sptypical) (FL_longer : Fd P w K mg base G k "_law_longer" 2 spL_longer) (FuI : Fd P w K mg base G k "_law_unlike" 1 (spSort D.int ltI D.lst)) (FuP : Fd P w K mg base G k "_law_unlike" 1 (spSort pairI DL.ltP D.lst))
    (FL_least : Fd P w K mg base G k "_law_least_above" 3 spL_least) (FL_kind : Fd P w K mg base G k "_law_kind" 4 spL_kind)
    {f : Addr} {cdv : Value} {A : Around} {outer : List Env} {s : Shared} {H : Hp} {E : XK} (hr : Room k (CtD P w K mg base nlaw "law" slaw f cdv A outer s H E).A) :
    WSs (CtD P w K mg base nlaw "law" slaw f cdv A outer s H E) G ((defBody slaw).drop 9) [none, some (.dat .src), some (.dat (.lst (pool.map D.int))), some (.dat (.int (1 + wd))), some (.dat (.int pl)), some (.dat (.tup [.int pl, tupI cells])), none, some (.dat (.int (cells.count (-1) : Nat))), some (.dat (.int (m : Nat))), some (.dat (.lst (given.map D.int))), some (.dat (.lst (kn.map D.int))), none, none, none, none, none, none, none, none, none] { nx := fun _ => False, rt := fun d => d = .bl true } := by
  have nd := sclaw.nd
  have u64 := Room.u64 hr
  have u1 := Room.u1 hr
  have hSl : cells.count (-1) ≤ 3 := Nat.le_trans List.count_le_length hcl
  have hkl : kn.length ≤ 6 := by
    rw [hkn, List.length_append]
    have := List.length_filter_le (fun c => decide (0 ≤ c) && !decide (c ∈ given)) cells
    omega
  have hun := unM_len kn
  have hmS : m * cells.count (-1) ≤ 9 := Nat.mul_le_mul h3 hSl
  have hbl : (basM kn m (cells.count (-1))).length ≤ 15 := by
    unfold basM freM
    rw [List.length_append, List.length_map, List.length_range]
    omega
  have hsum : ((unM kn).map D.int).length + ((freM kn m (cells.count (-1))).map D.int).length ≤ 1000000 := by
    unfold basM at hbl
    rw [List.length_append] at hbl
    rw [List.length_map, List.length_map]
    omega
  refine wss_cons ?_
  refine sfor ?_
  refine irange ?_
  refine acons ?_
  refine ev 8 ?_
  refine wa_nil ?_
  refine ⟨_, rfl, by omega, by omega, ?_⟩
  refine for_typed (List.range m) (fun i => .int (i : Nat)) (fun pre ρ => ∃ y12, ρ = [none, some (.dat .src), some (.dat (.lst (pool.map D.int))), some (.dat (.int (1 + wd))), some (.dat (.int pl)), some (.dat (.tup [.int pl, tupI cells])), none, some (.dat (.int (cells.count (-1) : Nat))), some (.dat (.int (m : Nat))), some (.dat (.lst (given.map D.int))), some (.dat (.lst (kn.map D.int))), none, y12, none, none, none, none, none, none, none]) (rng_nat _) ⟨_, rfl⟩ (fun pre r post ρ2 hL hI => ?_) (fun ρ2 hI => ?_)
  · obtain ⟨y12, rfl⟩ := hI
    have hrm : r < m := by
      have : r ∈ List.range m := by rw [hL]; simp
      exact List.mem_range.mp this
    refine gname 12 ?_
    refine wss_one ?_
    refine ws_if ?_
    refine tcmp ?_
    refine ecall Fnew_worth ?_
    refine acons ?_
    refine we_of_wf (fcT bt_list ?_)
    refine acons ?_
    refine ev 9 ?_
    refine wa_nil ?_
    simp_wf
    refine acons ?_
    refine ev 12 ?_
    refine acons ?_
    refine ev 8 ?_
    refine wa_nil ?_
    refine ⟨_, given, _, m, rfl, .inl rfl, h1, h3, ?_⟩
    refine ecall FL_least ?_
    refine acons ?_
    refine ev 9 ?_
    refine acons ?_
    refine ev 12 ?_
    refine acons ?_
    refine ev 8 ?_
    refine wa_nil ?_
    refine ⟨given, _, m, rfl, by omega, by omega, h1, h3, ?_⟩
    refine bd_neI ?_
    refine ⟨_, rfl, ?_⟩
    rw [decide_eq_false (fun z => z rfl)]
    refine iteF ?_
    refine wss_nil ?_
    exact ⟨_, rfl⟩
  obtain ⟨y12, rfl⟩ := hI
  refine wss_cons ?_
  refine sasg 13 ?_
  refine we_mono (Φ := fun d ρ' => d = .int (mxD (-1) kn) ∧ ρ' = [none, some (.dat .src), some (.dat (.lst (pool.map D.int))), some (.dat (.int (1 + wd))), some (.dat (.int pl)), some (.dat (.tup [.int pl, tupI cells])), none, some (.dat (.int (cells.count (-1) : Nat))), some (.dat (.int (m : Nat))), some (.dat (.lst (given.map D.int))), some (.dat (.lst (kn.map D.int))), none, y12, none, none, none, none, none, none, none]) ?_ (fun d ρ' e => ?_)
  · clear hkn hkl hun hbl hsum
    refine we_ite ?_
    refine tcmp ?_
    refine ev 10 ?_
    refine we_of_wf (wf_lst ?_)
    refine wa_nil ?_
    refine ⟨sz_le (Nat.le_of_ble_eq_true rfl), ?_⟩
    refine bd_neM (f := fun l : List Int => D.lst (l.map D.int)) (n := 1) kn [] (fun x y => eqb_lstM eqb_int x y) (fun x => okn_lstI x) u64 (by decide) ?_
    refine ⟨_, rfl, ?_⟩
    cases kn with
    | nil =>
      refine iteF ?_
      refine we_un ?_
      refine we_int ?_
      simp_wf
      exact ⟨rfl, rfl⟩
    | cons y ys =>
      refine iteT ?_
      refine ecB bt_max ?_
      refine acons ?_
      refine ev 10 ?_
      refine wa_nil ?_
      refine cd_maxL rfl u1 ?_
      exact ⟨rfl, rfl⟩
  obtain ⟨rfl, rfl⟩ := e
  refine wss_cons ?_
  refine slc 14 [("_law_k", 6)] ?_
  refine irange ?_
  refine acons ?_
  refine we_bin ?_
  refine ev 8 ?_
  refine ev 7 ?_
  simp_wf
  refine wa_nil ?_
  rw [← Int.natCast_mul]
  refine ⟨_, rfl, by omega, by omega, ?_⟩
  refine lcask_map (List.range (m * cells.count (-1))) (fun i => .int (i : Nat)) (fun i : Nat => .int (mxD (-1) kn + 1 + (i : Int))) (rng_nat _) (sz_le (by rw [List.length_range]; omega)) (fun k x hx s H C cl fp => ?_) ?_
  · refine gname 6 ?_
    intro s H C cl fp
    refine we_bin ?_
    refine we_bin ?_
    refine ev 13 ?_
    refine we_int ?_
    simp_wf
    refine ev 6 ?_
    simp_wf
    rfl
  have efr : ((List.range (m * cells.count (-1))).map fun i : Nat => D.int (mxD (-1) kn + 1 + (i : Int))) = (freM kn m (cells.count (-1))).map D.int := by
    unfold freM
    rw [List.map_map]
    rfl
  rw [efr]
  refine wss_cons ?_
  refine sasg 15 ?_
  refine we_of_wf (wf_lst ?_)
  refine acons ?_
  refine we_tup ?_
  refine wa_nil ?_
  refine ⟨sz_le (Nat.le_of_ble_eq_true rfl), ?_⟩
  refine wa_nil ?_
  refine ⟨sz_le (Nat.le_of_ble_eq_true rfl), ?_⟩
  refine wss_cons ?_
  refine sfor ?_
  refine wi_seq ?_
  refine esub ?_
  refine ev 5 ?_
  refine we_int ?_
  simp_wf
  refine ⟨_, .inr rfl, fun hz => ?_⟩
  refine for_typed cells D.int (fun pre ρ => ∃ y11, ρ = [none, some (.dat .src), some (.dat (.lst (pool.map D.int))), some (.dat (.int (1 + wd))), some (.dat (.int pl)), some (.dat (.tup [.int pl, tupI cells])), none, some (.dat (.int (cells.count (-1) : Nat))), some (.dat (.int (m : Nat))), some (.dat (.lst (given.map D.int))), some (.dat (.lst (kn.map D.int))), y11, y12, some (.dat (.int (mxD (-1) kn))), some (.dat (.lst ((freM kn m (cells.count (-1))).map D.int))), some (.dat (.lst ((FM (basM kn m (cells.count (-1))) pre).map tupI))), none, none, none, none]) rfl ⟨_, rfl⟩ (fun pre c post ρ2 hL hI => ?_) (fun ρ2 hI => ?_)
  · obtain ⟨y11, rfl⟩ := hI
    have hpl : pre.length ≤ 2 := by
      have := congrArg List.length hL
      rw [List.length_append, List.length_cons] at this
      omega
    have hFl : (FM (basM kn m (cells.count (-1))) pre).length ≤ 225 := by
      refine Nat.le_trans (FM_len hbl (by decide) _ pre rfl) ?_
      exact Nat.le_trans (Nat.pow_le_pow_right (by decide) hpl) (by decide)
    have hch : (chF (basM kn m (cells.count (-1))) c).length ≤ 15 := by
      unfold chF
      split
      · simp
      · exact hbl
    refine gname 11 ?_
    refine wss_one ?_
    refine sasg 15 ?_
    refine ecall FL_longer ?_
    refine acons ?_
    refine ev 15 ?_
    refine acons ?_
    refine we_mono (Φ := fun d ρ' => d = .lst ((chF (basM kn m (cells.count (-1))) c).map D.int) ∧ ρ' = [none, some (.dat .src), some (.dat (.lst (pool.map D.int))), some (.dat (.int (1 + wd))), some (.dat (.int pl)), some (.dat (.tup [.int pl, tupI cells])), none, some (.dat (.int (cells.count (-1) : Nat))), some (.dat (.int (m : Nat))), some (.dat (.lst (given.map D.int))), some (.dat (.lst (kn.map D.int))), some (.dat (.int c)), y12, some (.dat (.int (mxD (-1) kn))), some (.dat (.lst ((freM kn m (cells.count (-1))).map D.int))), some (.dat (.lst ((FM (basM kn m (cells.count (-1))) pre).map tupI))), none, none, none, none]) ?_ (fun d ρ' e => ?_)
    · refine we_ite ?_
      refine tcmp ?_
      refine ev 11 ?_
      refine we_int ?_
      simp_wf
      refine ⟨_, rfl, ?_⟩
      refine ite2 (fun c1 => ?_) (fun c1 => ?_)
      · have c1 : 0 ≤ c := by simpa using c1
        refine we_of_wf (wf_lst ?_)
        refine acons ?_
        refine ev 11 ?_
        refine wa_nil ?_
        refine ⟨sz_le (Nat.le_of_ble_eq_true rfl), ?_⟩
        exact ⟨by unfold chF; rw [if_pos c1]; rfl, rfl⟩
      · have c1 : ¬ 0 ≤ c := by simpa using c1
        refine we_bin ?_
        refine ecall FuI ?_
        refine acons ?_
        refine ev 10 ?_
        refine wa_nil ?_
        refine ⟨kn, rfl, by omega, fun out ho hm _ => ?_⟩
        obtain rfl : out = unM kn := asc_eq (ho.imp fun h => of_decide_eq_true h) (unM_asc kn) fun x => by rw [hm, unM_mem]
        refine ev 14 ?_
        refine bd_addL (sz_le hsum) ?_
        exact ⟨by unfold chF; rw [if_neg c1, basM, List.map_append], rfl⟩
    obtain ⟨rfl, rfl⟩ := e
    refine wa_nil ?_
    refine ⟨_, _, rfl, ?_, by omega, by omega, fun l hl => ?_, ?_⟩
    · exact Nat.le_trans (Nat.mul_le_mul hFl hch) (by decide)
    · rw [FM_each _ _ pre rfl l hl]; omega
    rw [← FM_snoc]
    exact ⟨_, rfl⟩
  obtain ⟨y11, rfl⟩ := hI
  have hFl : (FM (basM kn m (cells.count (-1))) cells).length ≤ 3375 := by
    refine Nat.le_trans (FM_len hbl (by decide) _ cells rfl) ?_
    exact Nat.le_trans (Nat.pow_le_pow_right (by decide) hcl) (by decide)
  refine wss_cons ?_
  refine sown 16 ?_
  refine wf_lst ?_
  refine wa_nil ?_
  refine ⟨sz_le (Nat.le_of_ble_eq_true rfl), ?_⟩
  refine wss_cons ?_
  refine sfor ?_
  refine wi_seq ?_
  refine ev 15 ?_
  refine ⟨_, .inl rfl, fun hz => ?_⟩
  refine for_typed (FM (basM kn m (cells.count (-1))) cells) tupI (fun pre ρ => ∃ y17, ρ = [none, some (.dat .src), some (.dat (.lst (pool.map D.int))), some (.dat (.int (1 + wd))), some (.dat (.int pl)), some (.dat (.tup [.int pl, tupI cells])), none, some (.dat (.int (cells.count (-1) : Nat))), some (.dat (.int (m : Nat))), some (.dat (.lst (given.map D.int))), some (.dat (.lst (kn.map D.int))), y11, y12, some (.dat (.int (mxD (-1) kn))), some (.dat (.lst ((freM kn m (cells.count (-1))).map D.int))), some (.dat (.lst ((FM (basM kn m (cells.count (-1))) cells).map tupI))), some (.own (pre.map fun f => pairI (pl, kindM kn m cells f))), y17, none, none]) rfl ⟨_, rfl⟩ (fun pre fl post ρ2 hL hI => ?_) (fun ρ2 hI => ?_)
  · obtain ⟨y17, rfl⟩ := hI
    have hin : fl ∈ FM (basM kn m (cells.count (-1))) cells := by rw [hL]; simp
    have hpl : pre.length ≤ 3375 := by
      have := congrArg List.length hL
      rw [List.length_append] at this
      omega
    refine gname 17 ?_
    refine wss_one ?_
    refine sexpr ?_
    refine eapp 16 ?_
    refine acons ?_
    refine ecall FL_kind ?_
    refine acons ?_
    refine ev 5 ?_
    refine acons ?_
    refine ev 17 ?_
    refine acons ?_
    refine ev 10 ?_
    refine acons ?_
    refine ev 8 ?_
    refine wa_nil ?_
    refine ⟨(pl, cells), fl, kn, m, rfl, FM_each _ _ cells rfl fl hin, hcl, h1, h3, ?_⟩
    refine wa_nil ?_
    refine ⟨_, _, rfl, rfl, sz_lt (by rw [List.length_map]; omega), ?_⟩
    exact ⟨_, by rw [List.map_append]; rfl⟩
  obtain ⟨y17, rfl⟩ := hI
  have cut1 : DL.cutD (given.map D.int) none (some 1) = (given.take 1).map D.int := by
    by_cases hg : 1 ≤ given.length
    · have := cut_take (given.map D.int) 1 (by rw [List.length_map]; exact hg)
      rw [List.map_take]
      exact this
    · have : given = [] := List.length_eq_zero_iff.mp (by omega)
      subst this
      unfold DL.cutD
      simp
  have hkc : ∀ c ∈ cells, c = -1 ∨ 0 ≤ c ∧ c ∈ kn := fun c hcc => by
    rcases hc c hcc with e | e
    · exact .inl e
    · refine .inr ⟨e, ?_⟩
      rw [hkn, known_mem hc]
      exact .inr ⟨hcc, by omega⟩
  have KE : ∀ {kp : List Int}, (∀ x, x ∈ kp ↔ x ∈ kn) → ∀ x : Int × List Int, (∃ l ∈ TM kp m cells, x = (pl, l)) ↔ x ∈ (FM (basM kn m (cells.count (-1))) cells).map fun f => (pl, kindM kn m cells f) := fun {kp} hK x => by
    have ke := kinds_eq hK h1 h3 (fun x h => bas_in (S := cells.count (-1)) x h) hkc (by rw [stars_count]; exact Nat.le_refl _)
    rw [List.mem_map]
    constructor
    · rintro ⟨l, hl, rfl⟩
      obtain ⟨f, hf, e⟩ := (ke l).mp hl
      exact ⟨f, hf, by rw [e]⟩
    · rintro ⟨f, hf, rfl⟩
      exact ⟨_, (ke _).mpr ⟨f, hf, rfl⟩, rfl⟩
  refine sfreeze 16 ?_
  refine wss_cons ?_
  refine sasg 18 ?_
  refine we_bin ?_
  refine we_of_wf (fcT bt_list ?_)
  refine acons ?_
  refine ev 9 ?_
  refine wa_nil ?_
  simp_wf
  refine we_of_wf (wf_sliceL ?_)
  refine ev 9 ?_
  refine wo_none ?_
  refine wo_some ?_
  refine we_int ?_
  refine ⟨_, rfl, ?_⟩
  refine ⟨_, rfl, ?_⟩
  rw [cut1]
  refine bd_addL (sz_le (by rw [List.length_map, List.length_map, List.length_take]; omega)) ?_
  rw [← List.map_append]
  refine wss_cons ?_
  refine sasg 19 ?_
  refine ecall Ftypical ?_
  refine acons ?_
  refine ev 5 ?_
  refine acons ?_
  refine ev 18 ?_
  refine acons ?_
  refine ev 8 ?_
  refine wa_nil ?_
  refine ⟨(pl, cells), _, given ++ given.take 1, m, rfl, .inl rfl, hcl, by rw [List.length_append, List.length_take]; omega, h1, h3, fun kp out1 hkp ho1 hm1 => ?_⟩
  have hK1 : ∀ x, x ∈ kp ↔ x ∈ kn := fun x => by
    rw [hkp, hkn, known_mem hc, List.mem_append, List.mem_append, List.mem_filter, decide_eq_true_eq]
    constructor
    · rintro ((h | h) | h)
      · exact .inl h
      · exact .inl (List.mem_of_mem_take h)
      · exact .inr h
    · rintro (h | h)
      · exact .inl (.inl h)
      · exact .inr h
  refine wss_cons ?_
  refine ws_if ?_
  refine wt_of_ww (ww_or ?_)
  refine tcmp ?_
  refine ev 19 ?_
  refine ecT bt_tuple ?_
  refine acons ?_
  refine ecall FuP ?_
  refine acons ?_
  refine ev 16 ?_
  refine wa_nil ?_
  refine ⟨(FM (basM kn m (cells.count (-1))) cells).map fun f => (pl, kindM kn m cells f), by rw [List.map_map]; rfl, by rw [List.length_map]; omega, fun out2 ho2 hm2 _ => ?_⟩
  obtain rfl : out1 = out2 := uniqP ho1 ho2 fun x => by rw [hm1, hm2]; exact KE hK1 x
  refine wa_nil ?_
  simp_wf
  have ok := rows_okn out1
  refine bd_ne u64 ok.ok ok.ok ?_
  rw [eqb_refl ok.ok]
  refine ⟨_, rfl, ?_⟩
  refine iteF ?_
  refine ww_or1 ?_
  refine tcmp ?_
  refine ev 18 ?_
  refine we_bin ?_
  refine ev 9 ?_
  refine we_of_wf (wf_sliceL ?_)
  refine ev 9 ?_
  refine wo_none ?_
  refine wo_some ?_
  refine we_int ?_
  refine ⟨_, rfl, ?_⟩
  refine ⟨_, rfl, ?_⟩
  rw [cut1]
  refine bd_addL (sz_le (by rw [List.length_map, List.length_map, List.length_take]; omega)) ?_
  rw [← List.map_append]
  have ok2 : (D.lst ((given ++ given.take 1).map D.int)).okn 1 := okn_lstI _
  refine bd_ne u64 ok2.ok ok2.ok ?_
  rw [eqb_refl ok2.ok]
  refine ⟨_, rfl, ?_⟩
  refine iteF ?_
  refine wss_nil ?_
  refine wss_one ?_
  refine ws_ret ?_
  refine ecmp ?_
  refine ev 19 ?_
  refine ecall Ftypical ?_
  refine acons ?_
  refine ev 5 ?_
  refine acons ?_
  refine ecT bt_tuple ?_
  refine acons ?_
  refine ev 10 ?_
  refine wa_nil ?_
  simp_wf
  refine acons ?_
  refine ev 8 ?_
  refine wa_nil ?_
  refine ⟨(pl, cells), _, kn, m, rfl, .inr rfl, hcl, by omega, h1, h3, fun kp2 out3 hkp2 ho3 hm3 => ?_⟩
  have hK2 : ∀ x, x ∈ kp2 ↔ x ∈ kn := fun x => by
    rw [hkp2, List.mem_append, List.mem_filter, decide_eq_true_eq]
    constructor
    · rintro (h | h)
      · exact h
      · rw [hkn, known_mem hc]
        exact .inr h
    · exact .inl
  obtain rfl : out1 = out3 := uniqP ho1 ho3 fun x => by rw [hm1, hm3, KE hK1 x]; exact (KE hK2 x).symm
  refine bd_eq u64 ok.ok ok.ok ?_
  rw [eqb_refl ok.ok]
end
end K01

namespace K01
open PySem PySem.Spec PyProof.Rows L2 DL
local macro_rules | `(tactic| simp_wf) => `(tactic| first
  | refine bd_add ?_ | refine bd_sub ?_ | refine bd_lt ?_ | refine bd_le ?_ | refine bd_gt ?_ | refine bd_ge ?_ | refine bd_eqI ?_ | refine bd_neI ?_
  | refine bd_eqB ?_ | refine bd_neB ?_ | refine bd_eqS ?_ | refine bd_neS ?_
  | refine bd_isN ?_ | refine bd_notN ?_ | refine bd_isB ?_ | refine bd_notB ?_ | refine bd_isNB ?_ | refine bd_notNB ?_
  | refine bd_mod (by first | assumption | decide | omega) ?_
  | refine bd_mul (by first | assumption | exact .inl ⟨by decide, by decide⟩ | exact .inr ⟨by decide, by decide⟩ | exact .inl ⟨by omega, by omega⟩ | exact .inr ⟨by omega, by omega⟩) ?_
  | refine bd_fdiv (by first | assumption | exact ⟨by decide, by decide⟩) ?_
  | refine bd_pow (by first | assumption | exact ⟨by decide, by decide, by decide⟩) ?_
  | refine bd_shl (by first | assumption | exact ⟨by omega, by omega, by omega⟩) ?_
  | refine bd_shr (by first | assumption | decide | omega) ?_
  | refine bd_andI ?_ | refine bd_orI ?_ | refine bd_xorI ?_ | refine ud_neg ?_
  | refine cd_lenT ?_ | refine cd_lenL ?_ | refine cd_tupleL ?_ | refine cd_tupleT ?_ | refine cd_int ?_ | refine cd_max2 rfl ?_ | refine cd_min2 rfl ?_
  | refine cf_list (.inl rfl) ?_ | refine cf_list (.inr rfl) ?_
  | refine ix_tupD (by first | rfl | assumption) ?_ | refine ix_lstD (by first | rfl | assumption) ?_)
section
variable {P : Program} {w : World} {K : PySem.W.Frag} {mg : Str → Option Value} {base : Heap} {G : DL.Cls}
theorem body_law {k : Nat} (ml : mg "len" = none) (mr : mg "range" = none) (mL : mg "list" = none) (mt : mg "tuple" = none) (mx : mg "max" = none)
    (FL_take : Fd P w K mg base G k "_law_take" 2 spTake) (FL_pick : Fd P w K mg base G k "_law_pick" 2 spL_pick) (FL_mixed : Fd P w K mg base G k "_law_mixed" 2 spL_mixed) (FL_pool : Fd P w K mg base G k "_law_pool" 2 spL_pool)
    (Fnew_worth : Fd P w K mg base G k "new_worth" 3 spnew_worth) (Ftypical : Fd P w K mg base G k "typical_rows" 3 sptypical) (FL_longer : Fd P w K mg base G k "_law_longer" 2 spL_longer) (FuI : Fd P w K mg base G k "_law_unlike" 1 (spSort D.int ltI D.lst)) (FuP : Fd P w K mg base G k "_law_unlike" 1 (spSort pairI DL.ltP D.lst))
    (FL_least : Fd P w K mg base G k "_law_least_above" 3 spL_least) (FL_kind : Fd P w K mg base G k "_law_kind" 4 spL_kind)
    {f : Addr} {cdv : Value} {A : Around} {outer : List Env} {s : Shared} {H : Hp} {E : XK} (hr : Room k (CtD P w K mg base nlaw "law" slaw f cdv A outer s H E).A) :
    WSs (CtD P w K mg base nlaw "law" slaw f cdv A outer s H E) G (defBody slaw).tail (none :: some (.dat .src) :: List.replicate 18 none) { nx := fun _ => False, rt := fun d => d = .bl true } := by
  have nd := sclaw.nd
  refine wss_cons ?_
  refine sasg 2 ?_
  refine ecall FL_pool ?_
  refine acons ?_
  refine ev 1 ?_
  refine acons ?_
  refine we_int ?_
  refine wa_nil ?_
  refine ⟨5, rfl, by decide, by decide, fun pool hpl hpa hp0 => ?_⟩
  have hpl : pool.length = 5 := hpl
  refine wss_cons ?_
  refine sasg 3 ?_
  refine we_bin ?_
  refine we_int ?_
  refine ecall FL_take ?_
  refine acons ?_
  refine ev 1 ?_
  refine acons ?_
  refine we_int ?_
  refine wa_nil ?_
  refine ⟨_, rfl, by decide, by decide +kernel, fun wd w0 w1 => ?_⟩
  simp_wf
  refine wss_cons ?_
  refine sasg 4 ?_
  refine ecall FL_take ?_
  refine acons ?_
  refine ev 1 ?_
  refine acons ?_
  refine we_int ?_
  refine wa_nil ?_
  refine ⟨_, rfl, by decide, by decide +kernel, fun pl l0 l1 => ?_⟩
  refine wss_patCount 5 7 (hilt := by show 5 < 20; decide) ?_
  refine ev 4 ?_
  refine fcomp [("_law_k", 6)] ?_
  refine irange ?_
  refine acons ?_
  refine ev 3 ?_
  refine wa_nil ?_
  refine ⟨_, rfl, by omega, by omega, ?_⟩
  refine lcask_rel (List.range (1 + wd).toNat) (fun i => .int (0 + (i : Nat))) (fun _ y => ∃ c, y = D.int c ∧ (c = -1 ∨ 0 ≤ c)) rfl (sz_le (by rw [List.length_range]; omega)) (fun k x hx s H C cl fp => ?_) (fun ys hys hR => ?_)
  · have hx := List.mem_range.mp (List.mem_of_getElem? hx)
    have hxp : x < pool.length := by omega
    have hat : L2.atI (pool.map D.int) (0 + (x : Int)) = some (.int pool[x]) := by
      rw [Int.zero_add]
      refine atI_nat ?_
      rw [List.getElem?_map, List.getElem?_eq_getElem hxp]
      rfl
    refine gname 6 ?_
    intro s H C cl fp
    refine ecall FL_pick ?_
    refine acons ?_
    refine ev 1 ?_
    refine acons ?_
    refine @we_of_wf _ _ _ _ _ ?_
    refine @wf_lst _ _ _ _ _ _ ?_
    refine acons ?_
    refine we_un ?_
    refine we_int ?_
    simp_wf
    refine acons ?_
    refine we_un ?_
    refine we_int ?_
    simp_wf
    refine acons ?_
    refine we_un ?_
    refine we_int ?_
    simp_wf
    refine acons ?_
    refine esub ?_
    refine ev 2 ?_
    refine ev 6 ?_
    refine ix_lstD hat ?_
    refine wa_nil ?_
    refine ⟨sz_le (Nat.le_of_ble_eq_true rfl), ?_⟩
    refine wa_nil ?_
    refine ⟨_, _, rfl, .inl rfl, by simp, by simp, fun e he => ?_⟩
    simp only [List.mem_cons, List.not_mem_nil, or_false] at he
    rcases he with rfl | rfl | rfl | rfl
    · exact ⟨-1, rfl, .inl rfl⟩
    · exact ⟨-1, rfl, .inl rfl⟩
    · exact ⟨-1, rfl, .inl rfl⟩
    · exact ⟨_, rfl, .inr (hp0 _ (List.getElem_mem hxp))⟩
  obtain ⟨cells, rfl, hc⟩ := ints_of (ys := ys) (C := fun c => c = -1 ∨ 0 ≤ c) fun j y hy => by
    have hj : j < ys.length := (List.getElem?_eq_some_iff.mp hy).1
    exact hR j j y (List.getElem?_range (by rw [hys, List.length_range] at hj; exact hj)) hy
  rw [List.length_map, List.length_range] at hys
  have hcl : cells.length ≤ 3 := by omega
  refine ⟨cells, rfl, by omega, ?_⟩
  refine wss_cons ?_
  refine sasg 8 ?_
  refine we_bin ?_
  refine we_int ?_
  refine ecall FL_take ?_
  refine acons ?_
  refine ev 1 ?_
  refine acons ?_
  refine we_mono (Φ := fun d ρ' => ∃ k : Int, d = .int k ∧ 2 ≤ k ∧ k ≤ 3 ∧ ρ' = [none, some (.dat .src), some (.dat (.lst (pool.map D.int))), some (.dat (.int (1 + wd))), some (.dat (.int pl)), some (.dat (.tup [.int pl, tupI cells])), none, some (.dat (.int (cells.count (-1) : Nat))), none, none, none, none, none, none, none, none, none, none, none, none]) ?_ (fun d ρ' e => ?_)
  · refine we_ite ?_
    refine tcmp ?_
    refine ev 7 ?_
    refine we_int ?_
    simp_wf
    refine ⟨_, rfl, ?_⟩
    refine ite2 (fun c1 => ?_) (fun c1 => ?_)
    · refine we_int ?_
      exact ⟨3, rfl, by decide, by decide, rfl⟩
    · refine we_int ?_
      exact ⟨2, rfl, by decide, by decide, rfl⟩
  obtain ⟨k2, rfl, k20, k23, rfl⟩ := e
  refine wa_nil ?_
  refine ⟨_, rfl, by omega, log_small (by omega), fun t t0 t1 => ?_⟩
  simp_wf
  obtain ⟨m, hm, h1, h3⟩ : ∃ m : Nat, 1 + t = (m : Int) ∧ 1 ≤ m ∧ m ≤ 3 := ⟨(1 + t).toNat, by omega, by omega, by omega⟩
  rw [hm]
  refine wss_cons ?_
  refine sasg 9 ?_
  refine we_of_wf (wf_sliceL ?_)
  refine ecall FL_mixed ?_
  refine acons ?_
  refine ev 1 ?_
  refine acons ?_
  refine ev 2 ?_
  refine wa_nil ?_
  refine ⟨_, _, rfl, .inl rfl, by rw [List.length_map]; omega, fun ys hys => ?_⟩
  have hyl := hys.length_eq
  rw [List.length_map, hpl] at hyl
  obtain ⟨zs, rfl, hzs⟩ := ints_of (ys := ys) (C := fun _ => True) fun j y hy => by
    have hmem := hys.mem_iff.mp (List.mem_of_getElem? hy)
    obtain ⟨z, _, rfl⟩ := List.mem_map.mp hmem
    exact ⟨z, rfl, trivial⟩
  rw [List.length_map] at hyl
  refine wo_none ?_
  refine wo_some ?_
  refine ecall FL_take ?_
  refine acons ?_
  refine ev 1 ?_
  refine acons ?_
  refine we_mono (Φ := fun d ρ' => ∃ k : Int, d = .int k ∧ 3 ≤ k ∧ k ≤ 4 ∧ ρ' = [none, some (.dat .src), some (.dat (.lst (pool.map D.int))), some (.dat (.int (1 + wd))), some (.dat (.int pl)), some (.dat (.tup [.int pl, tupI cells])), none, some (.dat (.int (cells.count (-1) : Nat))), some (.dat (.int (m : Nat))), none, none, none, none, none, none, none, none, none, none, none]) ?_ (fun d ρ' e => ?_)
  · refine we_ite ?_
    refine tcmp ?_
    refine ev 7 ?_
    refine we_int ?_
    simp_wf
    refine ⟨_, rfl, ?_⟩
    refine ite2 (fun c1 => ?_) (fun c1 => ?_)
    · refine we_int ?_
      exact ⟨4, rfl, by decide, by decide, rfl⟩
    · refine we_int ?_
      exact ⟨3, rfl, by decide, by decide, rfl⟩
  obtain ⟨k3, rfl, k30, k34, rfl⟩ := e
  refine wa_nil ?_
  refine ⟨_, rfl, by omega, log_small (by omega), fun t2 t20 t21 => ?_⟩
  refine ⟨_, rfl, ?_⟩
  refine ⟨_, rfl, ?_⟩
  obtain ⟨n2, rfl, hn2⟩ : ∃ n2 : Nat, t2 = (n2 : Int) ∧ n2 ≤ 3 := ⟨t2.toNat, by omega, by omega⟩
  have ecut : DL.cutD (zs.map D.int) none (some (n2 : Int)) = (zs.take n2).map D.int := by
    rw [cut_take _ n2 (by rw [List.length_map]; omega), List.map_take]
  rw [ecut]
  have hgl : (zs.take n2).length ≤ 3 := by rw [List.length_take]; omega
  generalize zs.take n2 = given at hgl
  refine wss_cons ?_
  refine sasg 10 ?_
  refine we_bin ?_
  refine ev 9 ?_
  refine we_of_wf (fcomp [("_law_cell", 11)] ?_)
  refine wi_seq ?_
  refine esub ?_
  refine ev 5 ?_
  refine we_int ?_
  simp_wf
  refine ⟨_, .inr rfl, fun hz => ?_⟩
  refine lcask_filt (L := cells) D.int D.int (fun c => decide (0 ≤ c) && !decide (c ∈ given)) rfl (sz_le (by omega)) (fun k x hx s H C cl fp => ?_) ?_
  · refine gname 11 ?_
    intro s H C cl fp
    refine wt_of_ww (ww_and ?_)
    refine tcmp ?_
    refine ev 11 ?_
    refine we_int ?_
    simp_wf
    refine ⟨_, rfl, ?_⟩
    refine ite2 (fun c1 => ?_) (fun c1 => ?_)
    · have c1 : decide (0 ≤ x) = true := by simpa using c1
      refine ww_and1 ?_
      refine tcmp ?_
      refine ev 11 ?_
      refine ev 9 ?_
      refine bd_notInI (ns := given) (.inl rfl) ?_
      refine ⟨_, rfl, ?_⟩
      refine ⟨by rw [c1]; rfl, fun _ => ?_⟩
      intro s H C cl fp
      refine ev 11 ?_
      rfl
    · have c1 : decide (0 ≤ x) = false := by simpa using c1
      refine ⟨by rw [c1]; rfl, fun z => ?_⟩
      rw [c1] at z
      cases z
  have hfl := List.length_filter_le (fun c => decide (0 ≤ c) && !decide (c ∈ given)) cells
  refine bd_addL (sz_le (by rw [List.length_map, List.length_map]; omega)) ?_
  rw [← List.map_append]
  exact rest_law h1 h3 hcl hc hgl rfl mr mL mt mx Fnew_worth Ftypical FL_longer FuI FuP FL_least FL_kind hr
theorem ok_law {f fS : Addr} {fd fdS : FuncData} {k : Nat} (F : Fun K "law" "law" slaw f fd) (FS : FnOk P w K mg base CX0 k fS fdS ["_law_script"] (spSource K)) (bS : Binds K fdS ["_law_script"] []) (kS : PySem.W.keepIn K (.ref fS) = true) (gS : mg "_law_source" = some (.ref fS))
    (body : ∀ (f : Addr) (cdv : Value) (A : Around) (outer : List Env) (s : Shared) (H : Hp) (E : XK), Room k (CtD P w K mg base nlaw "law" slaw f cdv A outer s H E).A →
      WSs (CtD P w K mg base nlaw "law" slaw f cdv A outer s H E) G (defBody slaw).tail (none :: some (.dat .src) :: List.replicate 18 none) { nx := fun _ => False, rt := fun d => d = .bl true }) :
    FnOk P w K mg base CX0 (k + 1) f fd ["_law_script"] (spLawS K) := by
  refine F.ok sclaw (fun vs H Q E h => ?_) (fun cdv A outer s H vs Q E hr h => ?_)
  · obtain ⟨a, ns, rfl, _⟩ := h
    rfl
  obtain ⟨a, ns, rfl, hS, hl, q⟩ := h
  refine ⟨_, pss_cons (ps_set (i := 1) sclaw.nd rfl (.inr rfl) (pe_call FS hr (by rfl) gS kS bS .nil pass0 (pa_cons (pv 0) pa_nil))) (pss_m _ _), ?_⟩
  refine ⟨.ref a, rfl, a, ns, rfl, hS, hl, fun H1 p c sm hpc _ h1 h2 => ?_⟩
  exact body f cdv A outer s H E hr (some p) H1 _ _ H1 _ (src_rep 18 hpc h1 h2) _ (src_ends q)
end
end K01

namespace K01
open PySem PySem.Spec PyProof.Rows L2 DL
section
theorem all_mk {l : PySem.W.OpenLaw} {w : World} {K : PySem.W.Frag} {h : Heap} {mg : Str → Option Value} {fa f1 f2 f3 f4 f5 f6 f7 f8 f9 f10 f11 f12 f13 f14 : Addr} (X : K.In h) (G : h.Ns mainGlobals mg) (hfa : mg "law" = some (.ref fa))
    {od1 an1 od2 an2 od3 an3 od4 an4 od5 an5 od6 an6 od7 an7 od8 an8 od9 an9 od10 an10 od11 an11 od12 an12 od13 an13 od14 an14 : Option Addr} {sl1 sl2 sl3 sl4 sl5 sl6 sl7 sl8 sl9 sl10 sl11 sl12 sl13 sl14 : Array (Option Value)} {oc1 kV1 dc1 pm1 cd1 ct1 oc2 kV2 dc2 pm2 cd2 ct2 oc3 kV3 dc3 pm3 cd3 ct3 oc4 kV4 dc4 pm4 cd4 ct4 oc5 kV5 dc5 pm5 cd5 ct5 oc6 kV6 dc6 pm6 cd6 ct6 oc7 kV7 dc7 pm7 cd7 ct7 oc8 kV8 dc8 pm8 cd8 ct8 oc9 kV9 dc9 pm9 cd9 ct9 oc10 kV10 dc10 pm10 cd10 ct10 oc11 kV11 dc11 pm11 cd11 ct11 oc12 kV12 dc12 pm12 cd12 ct12 oc13 kV13 dc13 pm13 cd13 ct13 oc14 kV14 dc14 pm14 cd14 ct14 : Value}
    (a1 : PySem.W.nsIn K mainGlobals "sorted_things" = some (some (.ref f1))) (l1 : K.lookup f1 = some ⟨oc1, od1, .func (PySem.W.fnOf "sorted_things" "sorted_things" (defArgs (topS 1)) (defBody (topS 1)) (defScope (topS 1)) .none kV1 dc1 pm1 an1 cd1 ct1), sl1⟩) (c1 : PySem.W.codeIn K cd1 "sorted_things" = true) (k1 : PySem.W.keepIn K (.ref f1) = true)
    (a2 : PySem.W.nsIn K mainGlobals "new_worth" = some (some (.ref f2))) (l2 : K.lookup f2 = some ⟨oc2, od2, .func (PySem.W.fnOf "new_worth" "new_worth" (defArgs (topS 4)) (defBody (topS 4)) (defScope (topS 4)) .none kV2 dc2 pm2 an2 cd2 ct2), sl2⟩) (c2 : PySem.W.codeIn K cd2 "new_worth" = true) (k2 : PySem.W.keepIn K (.ref f2) = true)
    (a3 : PySem.W.nsIn K mainGlobals "new_choices" = some (some (.ref f3))) (l3 : K.lookup f3 = some ⟨oc3, od3, .func (PySem.W.fnOf "new_choices" "new_choices" (defArgs (topS 5)) (defBody (topS 5)) (defScope (topS 5)) .none kV3 dc3 pm3 an3 cd3 ct3), sl3⟩) (c3 : PySem.W.codeIn K cd3 "new_choices" = true) (k3 : PySem.W.keepIn K (.ref f3) = true)
    (a4 : PySem.W.nsIn K mainGlobals "typical_rows" = some (some (.ref f4))) (l4 : K.lookup f4 = some ⟨oc4, od4, .func (PySem.W.fnOf "typical_rows" "typical_rows" (defArgs (topS 6)) (defBody (topS 6)) (defScope (topS 6)) .none kV4 dc4 pm4 an4 cd4 ct4), sl4⟩) (c4 : PySem.W.codeIn K cd4 "typical_rows" = true) (k4 : PySem.W.keepIn K (.ref f4) = true)
    (a5 : PySem.W.nsIn K mainGlobals "_law_source" = some (some (.ref f5))) (l5 : K.lookup f5 = some ⟨oc5, od5, .func (PySem.W.fnOf "_law_source" "_law_source" (defArgs (topS 8)) (defBody (topS 8)) (defScope (topS 8)) .none kV5 dc5 pm5 an5 cd5 ct5), sl5⟩) (c5 : PySem.W.codeIn K cd5 "_law_source" = true) (k5 : PySem.W.keepIn K (.ref f5) = true)
    (a6 : PySem.W.nsIn K mainGlobals "_law_take" = some (some (.ref f6))) (l6 : K.lookup f6 = some ⟨oc6, od6, .func (PySem.W.fnOf "_law_take" "_law_take" (defArgs (topS 9)) (defBody (topS 9)) (defScope (topS 9)) .none kV6 dc6 pm6 an6 cd6 ct6), sl6⟩) (c6 : PySem.W.codeIn K cd6 "_law_take" = true) (k6 : PySem.W.keepIn K (.ref f6) = true)
    (a7 : PySem.W.nsIn K mainGlobals "_law_pick" = some (some (.ref f7))) (l7 : K.lookup f7 = some ⟨oc7, od7, .func (PySem.W.fnOf "_law_pick" "_law_pick" (defArgs (topS 10)) (defBody (topS 10)) (defScope (topS 10)) .none kV7 dc7 pm7 an7 cd7 ct7), sl7⟩) (c7 : PySem.W.codeIn K cd7 "_law_pick" = true) (k7 : PySem.W.keepIn K (.ref f7) = true)
    (a8 : PySem.W.nsIn K mainGlobals "_law_mixed" = some (some (.ref f8))) (l8 : K.lookup f8 = some ⟨oc8, od8, .func (PySem.W.fnOf "_law_mixed" "_law_mixed" (defArgs (topS 11)) (defBody (topS 11)) (defScope (topS 11)) .none kV8 dc8 pm8 an8 cd8 ct8), sl8⟩) (c8 : PySem.W.codeIn K cd8 "_law_mixed" = true) (k8 : PySem.W.keepIn K (.ref f8) = true)
    (a9 : PySem.W.nsIn K mainGlobals "_law_pool" = some (some (.ref f9))) (l9 : K.lookup f9 = some ⟨oc9, od9, .func (PySem.W.fnOf "_law_pool" "_law_pool" (defArgs (topS 12)) (defBody (topS 12)) (defScope (topS 12)) .none kV9 dc9 pm9 an9 cd9 ct9), sl9⟩) (c9 : PySem.W.codeIn K cd9 "_law_pool" = true) (k9 : PySem.W.keepIn K (.ref f9) = true)
    (a10 : PySem.W.nsIn K mainGlobals "_law_longer" = some (some (.ref f10))) (l10 : K.lookup f10 = some ⟨oc10, od10, .func (PySem.W.fnOf "_law_longer" "_law_longer" (defArgs (topS 13)) (defBody (topS 13)) (defScope (topS 13)) .none kV10 dc10 pm10 an10 cd10 ct10), sl10⟩) (c10 : PySem.W.codeIn K cd10 "_law_longer" = true) (k10 : PySem.W.keepIn K (.ref f10) = true)
    (a11 : PySem.W.nsIn K mainGlobals "_law_unlike" = some (some (.ref f11))) (l11 : K.lookup f11 = some ⟨oc11, od11, .func (PySem.W.fnOf "_law_unlike" "_law_unlike" (defArgs (topS 14)) (defBody (topS 14)) (defScope (topS 14)) .none kV11 dc11 pm11 an11 cd11 ct11), sl11⟩) (c11 : PySem.W.codeIn K cd11 "_law_unlike" = true) (k11 : PySem.W.keepIn K (.ref f11) = true)
    (a12 : PySem.W.nsIn K mainGlobals "_law_least_above" = some (some (.ref f12))) (l12 : K.lookup f12 = some ⟨oc12, od12, .func (PySem.W.fnOf "_law_least_above" "_law_least_above" (defArgs (topS 15)) (defBody (topS 15)) (defScope (topS 15)) .none kV12 dc12 pm12 an12 cd12 ct12), sl12⟩) (c12 : PySem.W.codeIn K cd12 "_law_least_above" = true) (k12 : PySem.W.keepIn K (.ref f12) = true)
    (a13 : PySem.W.nsIn K mainGlobals "_law_kind" = some (some (.ref f13))) (l13 : K.lookup f13 = some ⟨oc13, od13, .func (PySem.W.fnOf "_law_kind" "_law_kind" (defArgs (topS 16)) (defBody (topS 16)) (defScope (topS 16)) .none kV13 dc13 pm13 an13 cd13 ct13), sl13⟩) (c13 : PySem.W.codeIn K cd13 "_law_kind" = true) (k13 : PySem.W.keepIn K (.ref f13) = true)
    (a14 : PySem.W.nsIn K mainGlobals "law" = some (some (.ref f14))) (l14 : K.lookup f14 = some ⟨oc14, od14, .func (PySem.W.fnOf "law" "law" (defArgs (topS 17)) (defBody (topS 17)) (defScope (topS 17)) .none kV14 dc14 pm14 an14 cd14 ct14), sl14⟩) (c14 : PySem.W.codeIn K cd14 "law" = true) (k14 : PySem.W.keepIn K (.ref f14) = true)
    {tg1 : Tok} (g1 : PySem.W.nsIn K mainGlobals "STAR" = some (some (.int (-1) tg1)))
    (z1 : PySem.W.nsIn K mainGlobals "len" = some none)
    (z2 : PySem.W.nsIn K mainGlobals "range" = some none)
    (z3 : PySem.W.nsIn K mainGlobals "list" = some none)
    (z4 : PySem.W.nsIn K mainGlobals "tuple" = some none)
    (z5 : PySem.W.nsIn K mainGlobals "int" = some none)
    (z6 : PySem.W.nsIn K mainGlobals "enumerate" = some none)
    (z7 : PySem.W.nsIn K mainGlobals "sorted" = some none)
    (z8 : PySem.W.nsIn K mainGlobals "max" = some none)
    : ∃ fd : FuncData, (∀ (s : Shared) (v : Value), BindsTo s fd ⟨[v], []⟩ [("_law_script", v)]) ∧ ∀ base : Heap, K.In base → base.Ns mainGlobals mg → FnOk l.prog w K mg base CX0 7 fa fd ["_law_script"] (spLawS K) := by
  have e := hfa.symm.trans (PySem.W.mg_of X G a14)
  cases e
  have m_STAR := PySem.W.mg_of X G g1
  have m_len := PySem.W.mg_none_of X G z1
  have m_range := PySem.W.mg_none_of X G z2
  have m_list := PySem.W.mg_none_of X G z3
  have m_tuple := PySem.W.mg_none_of X G z4
  have m_int := PySem.W.mg_none_of X G z5
  have m_enumerate := PySem.W.mg_none_of X G z6
  have m_sorted := PySem.W.mg_none_of X G z7
  have m_max := PySem.W.mg_none_of X G z8
  have F1 := fun_mk (st := topS 1) l1 c1 k1
  have b1 := F1.binds (ps := ["things"]) fun _ _ _ _ _ _ us hl => match us, hl with | [_], _ => rfl
  have m1 := PySem.W.mg_of X G a1
  have T_sorted_things : Tp K mg "sorted_things" (topS 1) ["things"] := ⟨_, _, F1, m1, b1⟩
  have F2 := fun_mk (st := topS 4) l2 c2 k2
  have b2 := F2.binds (ps := ["known", "rest", "modulus"]) fun _ _ _ _ _ _ us hl => match us, hl with | [_, _, _], _ => rfl
  have m2 := PySem.W.mg_of X G a2
  have T_new_worth : Tp K mg "new_worth" (topS 4) ["known", "rest", "modulus"] := ⟨_, _, F2, m2, b2⟩
  have F3 := fun_mk (st := topS 5) l3 c3 k3
  have b3 := F3.binds (ps := ["left", "known", "modulus"]) fun _ _ _ _ _ _ us hl => match us, hl with | [_, _, _], _ => rfl
  have m3 := PySem.W.mg_of X G a3
  have T_new_choices : Tp K mg "new_choices" (topS 5) ["left", "known", "modulus"] := ⟨_, _, F3, m3, b3⟩
  have F4 := fun_mk (st := topS 6) l4 c4 k4
  have b4 := F4.binds (ps := ["pattern", "worths", "modulus"]) fun _ _ _ _ _ _ us hl => match us, hl with | [_, _, _], _ => rfl
  have m4 := PySem.W.mg_of X G a4
  have T_typical_rows : Tp K mg "typical_rows" (topS 6) ["pattern", "worths", "modulus"] := ⟨_, _, F4, m4, b4⟩
  have F5 := fun_mk (st := topS 8) l5 c5 k5
  have b5 := F5.binds (ps := ["_law_script"]) fun _ _ _ _ _ _ us hl => match us, hl with | [_], _ => rfl
  have m5 := PySem.W.mg_of X G a5
  have T_law_source : Tp K mg "_law_source" (topS 8) ["_law_script"] := ⟨_, _, F5, m5, b5⟩
  have F6 := fun_mk (st := topS 9) l6 c6 k6
  have b6 := F6.binds (ps := ["_law_source_here", "_law_many"]) fun _ _ _ _ _ _ us hl => match us, hl with | [_, _], _ => rfl
  have m6 := PySem.W.mg_of X G a6
  have T_law_take : Tp K mg "_law_take" (topS 9) ["_law_source_here", "_law_many"] := ⟨_, _, F6, m6, b6⟩
  have F7 := fun_mk (st := topS 10) l7 c7 k7
  have b7 := F7.binds (ps := ["_law_source_here", "_law_things"]) fun _ _ _ _ _ _ us hl => match us, hl with | [_, _], _ => rfl
  have m7 := PySem.W.mg_of X G a7
  have T_law_pick : Tp K mg "_law_pick" (topS 10) ["_law_source_here", "_law_things"] := ⟨_, _, F7, m7, b7⟩
  have F8 := fun_mk (st := topS 11) l8 c8 k8
  have b8 := F8.binds (ps := ["_law_source_here", "_law_things"]) fun _ _ _ _ _ _ us hl => match us, hl with | [_, _], _ => rfl
  have m8 := PySem.W.mg_of X G a8
  have T_law_mixed : Tp K mg "_law_mixed" (topS 11) ["_law_source_here", "_law_things"] := ⟨_, _, F8, m8, b8⟩
  have F9 := fun_mk (st := topS 12) l9 c9 k9
  have b9 := F9.binds (ps := ["_law_source_here", "_law_many"]) fun _ _ _ _ _ _ us hl => match us, hl with | [_, _], _ => rfl
  have m9 := PySem.W.mg_of X G a9
  have T_law_pool : Tp K mg "_law_pool" (topS 12) ["_law_source_here", "_law_many"] := ⟨_, _, F9, m9, b9⟩
  have F10 := fun_mk (st := topS 13) l10 c10 k10
  have b10 := F10.binds (ps := ["_law_told", "_law_worths"]) fun _ _ _ _ _ _ us hl => match us, hl with | [_, _], _ => rfl
  have m10 := PySem.W.mg_of X G a10
  have T_law_longer : Tp K mg "_law_longer" (topS 13) ["_law_told", "_law_worths"] := ⟨_, _, F10, m10, b10⟩
  have F11 := fun_mk (st := topS 14) l11 c11 k11
  have b11 := F11.binds (ps := ["_law_things"]) fun _ _ _ _ _ _ us hl => match us, hl with | [_], _ => rfl
  have m11 := PySem.W.mg_of X G a11
  have T_law_unlike : Tp K mg "_law_unlike" (topS 14) ["_law_things"] := ⟨_, _, F11, m11, b11⟩
  have F12 := fun_mk (st := topS 15) l12 c12 k12
  have b12 := F12.binds (ps := ["_law_known", "_law_rest", "_law_modulus"]) fun _ _ _ _ _ _ us hl => match us, hl with | [_, _, _], _ => rfl
  have m12 := PySem.W.mg_of X G a12
  have T_law_least_above : Tp K mg "_law_least_above" (topS 15) ["_law_known", "_law_rest", "_law_modulus"] := ⟨_, _, F12, m12, b12⟩
  have F13 := fun_mk (st := topS 16) l13 c13 k13
  have b13 := F13.binds (ps := ["_law_pattern", "_law_filling", "_law_known", "_law_modulus"]) fun _ _ _ _ _ _ us hl => match us, hl with | [_, _, _, _], _ => rfl
  have m13 := PySem.W.mg_of X G a13
  have T_law_kind : Tp K mg "_law_kind" (topS 16) ["_law_pattern", "_law_filling", "_law_known", "_law_modulus"] := ⟨_, _, F13, m13, b13⟩
  have F14 := fun_mk (st := topS 17) l14 c14 k14
  refine ⟨PySem.W.fnOf "law" "law" (defArgs (topS 17)) (defBody (topS 17)) (defScope (topS 17)) .none kV14 dc14 pm14 an14 cd14 ct14, fun s v => .of_eq rfl, fun base _ _ => ?_⟩
  let Gc : DL.Cls := fun _ => (0, [])
  have FL_take : Fd l.prog w K mg base Gc 1 "_law_take" 2 spTake := ⟨_, _, _, m6, F6.kp, b6, rfl, ok_take F6 m_len m_int⟩
  have FsI : Fd l.prog w K mg base Gc 1 "sorted_things" 1 (spSort D.int ltI D.tup) := (T_sorted_things).fd rfl scsorted_things (fun ds Ψ h => by obtain ⟨_, e, _⟩ := h; rw [e]; rfl) (ok_sorted_things skI m_sorted m_enumerate m_tuple)
  have FsP : Fd l.prog w K mg base Gc 1 "sorted_things" 1 (spSort pairI DL.ltP D.tup) := (T_sorted_things).fd rfl scsorted_things (fun ds Ψ h => by obtain ⟨_, e, _⟩ := h; rw [e]; rfl) (ok_sorted_things skP m_sorted m_enumerate m_tuple)
  have Fnew_worth : Fd l.prog w K mg base Gc 1 "new_worth" 3 spnew_worth := (T_new_worth).fd rfl scnew_worth (fun ds Ψ h => by obtain ⟨_, _, _, _, e, _⟩ := h; rw [e]; rfl) (ok_new_worth m_max)
  have Fnew_choices : Fd l.prog w K mg base Gc 2 "new_choices" 3 spnew_choices := (T_new_choices).fd rfl scnew_choices (fun ds Ψ h => by obtain ⟨_, _, _, e, _⟩ := h; rw [e]; rfl) (ok_new_choices m_len m_range m_sorted Fnew_worth)
  have Ftypical_rows : Fd l.prog w K mg base Gc 3 "typical_rows" 3 sptypical := (T_typical_rows).fd rfl sctypical_rows (fun ds Ψ h => by obtain ⟨_, _, _, _, e, _⟩ := h; rw [e]; rfl) (ok_typical_rows m_list m_STAR (FsI.mono (by decide)) (FsP.mono (by decide)) Fnew_choices)
  have FL_pick : Fd l.prog w K mg base Gc 2 "_law_pick" 2 spL_pick := (T_law_pick).fd rfl scL_pick (fun ds Ψ h => by obtain ⟨_, _, e, _⟩ := h; rw [e]; rfl) (ok_L_pick m_len FL_take)
  have FL_mixed : Fd l.prog w K mg base Gc 3 "_law_mixed" 2 spL_mixed := (T_law_mixed).fd rfl scL_mixed (fun ds Ψ h => by obtain ⟨_, _, e, _⟩ := h; rw [e]; rfl) (ok_L_mixed m_len m_list m_range (FL_take.mono (by decide)))
  have FL_pool : Fd l.prog w K mg base Gc 3 "_law_pool" 2 spL_pool := (T_law_pool).fd rfl scL_pool (fun ds Ψ h => by obtain ⟨_, e, _⟩ := h; rw [e]; rfl) (ok_L_pool m_range (FL_take.mono (by decide)) FL_pick)
  have FL_longer : Fd l.prog w K mg base Gc 1 "_law_longer" 2 spL_longer := (T_law_longer).fd rfl scL_longer (fun ds Ψ h => by obtain ⟨_, _, e, _⟩ := h; rw [e]; rfl) (ok_L_longer)
  have FuI : Fd l.prog w K mg base Gc 1 "_law_unlike" 1 (spSort D.int ltI D.lst) := (T_law_unlike).fd rfl scL_unlike (fun ds Ψ h => by obtain ⟨_, e, _⟩ := h; rw [e]; rfl) (ok_L_unlike skI m_sorted m_len m_range)
  have FuP : Fd l.prog w K mg base Gc 1 "_law_unlike" 1 (spSort pairI DL.ltP D.lst) := (T_law_unlike).fd rfl scL_unlike (fun ds Ψ h => by obtain ⟨_, e, _⟩ := h; rw [e]; rfl) (ok_L_unlike skP m_sorted m_len m_range)
  have FL_least : Fd l.prog w K mg base Gc 1 "_law_least_above" 3 spL_least := (T_law_least_above).fd rfl scL_least (fun ds Ψ h => by obtain ⟨_, _, _, e, _⟩ := h; rw [e]; rfl) (ok_L_least m_max m_range m_int)
  have FL_kind : Fd l.prog w K mg base Gc 2 "_law_kind" 4 spL_kind := (T_law_kind).fd rfl scL_kind (fun ds Ψ h => by obtain ⟨_, _, _, _, e, _⟩ := h; rw [e]; rfl) (ok_L_kind m_len m_range m_tuple m_int FL_least)
  exact ok_law F14 ((ok_source (k := 0) F5 m_list).mono (by decide)) b5 F5.kp m5 (G := Gc) fun _ _ _ _ _ _ _ hr => body_law (k := 6) m_len m_range m_list m_tuple m_max (FL_take.mono (by decide)) (FL_pick.mono (by decide)) (FL_mixed.mono (by decide)) (FL_pool.mono (by decide)) (Fnew_worth.mono (by decide)) (Ftypical_rows.mono (by decide)) (FL_longer.mono (by decide)) (FuI.mono (by decide)) (FuP.mono (by decide)) (FL_least.mono (by decide)) (FL_kind.mono (by decide)) hr
theorem walk {l : PySem.W.OpenLaw} {q : Program} {loose : List Str} {XP : (Str → Option Value) → Heap → Prop} {YP : World → Heap → Prop} {d : DefRec} {K : Params → PySem.W.Frag} (hn : l.most = some 63) (hdf : d.params.defaults = [])
    (hY : ∀ (w : World) (h : Heap), YP w h → (K w.params).In h)
    (F : ∀ (w : World) (mg : Str → Option Value) (fa : Addr) (h : Heap), (K w.params).In h → h.Ns mainGlobals mg → mg d.name = some (.ref fa) →
      ∃ fd : FuncData, (∀ (s : Shared) (u : Value), BindsTo s fd ⟨[u], []⟩ [("_law_script", u)]) ∧ ∀ base : Heap, (K w.params).In base → base.Ns mainGlobals mg → FnOk l.prog w (K w.params) mg base CX0 7 fa fd ["_law_script"] (spLawS (K w.params))) :
    PySem.W.WalkO q loose XP YP l.row.toRowW d [] (fun f vs => PySem.call f vs) :=
  L2.walk_of (n := 63) (k := 7) (x := "_law_script") (CX := fun _ => CX0) (sp := fun w => spLawS (K w.params)) hn (by rw [sizeLine_eq]; decide) hdf ⟨rfl, by decide, by decide⟩ hY F (fun _ _ a ns hl _ hS => ⟨a, ns, rfl, hS, hl, fun _ => rfl⟩) fun _ _ _ _ _ z => z
end
end K01
open PySem PySem.W PyProof.Rows
set_option maxRecDepth 100000 in
set_option maxHeartbeats 0 in
theorem PySem.Challenge.cw_soonestsaid_k01_typical_rows_one_for_eac_holds : PySem.Challenge.rw_soonestsaid_k01_typical_rows_one_for_eac.Holds := by
  w_on; o_law; k_head; (case hw => w_witness2)
  k_fill
  refine K01.walk (l := PySem.Challenge.rw_soonestsaid_k01_typical_rows_one_for_eac) rfl rfl (fun w h Y => PySem.W.kIn_of Y) ?F
  case F =>
    intro w mg fa h KX G hmg
    refine' K01.all_mk KX G hmg ?a1 ?l1 ?c1 ?k1 ?a2 ?l2 ?c2 ?k2 ?a3 ?l3 ?c3 ?k3 ?a4 ?l4 ?c4 ?k4 ?a5 ?l5 ?c5 ?k5 ?a6 ?l6 ?c6 ?k6 ?a7 ?l7 ?c7 ?k7 ?a8 ?l8 ?c8 ?k8 ?a9 ?l9 ?c9 ?k9 ?a10 ?l10 ?c10 ?k10 ?a11 ?l11 ?c11 ?k11 ?a12 ?l12 ?c12 ?k12 ?a13 ?l13 ?c13 ?k13 ?a14 ?l14 ?c14 ?k14 ?g1 ?z1 ?z2 ?z3 ?z4 ?z5 ?z6 ?z7 ?z8
    (case a1 => k_is); (case l1 => k_is); (case c1 => k_is); (case k1 => k_is)
    (case a2 => k_is); (case l2 => k_is); (case c2 => k_is); (case k2 => k_is)
    (case a3 => k_is); (case l3 => k_is); (case c3 => k_is); (case k3 => k_is)
    (case a4 => k_is); (case l4 => k_is); (case c4 => k_is); (case k4 => k_is)
    (case a5 => k_is); (case l5 => k_is); (case c5 => k_is); (case k5 => k_is)
    (case a6 => k_is); (case l6 => k_is); (case c6 => k_is); (case k6 => k_is)
    (case a7 => k_is); (case l7 => k_is); (case c7 => k_is); (case k7 => k_is)
    (case a8 => k_is); (case l8 => k_is); (case c8 => k_is); (case k8 => k_is)
    (case a9 => k_is); (case l9 => k_is); (case c9 => k_is); (case k9 => k_is)
    (case a10 => k_is); (case l10 => k_is); (case c10 => k_is); (case k10 => k_is)
    (case a11 => k_is); (case l11 => k_is); (case c11 => k_is); (case k11 => k_is)
    (case a12 => k_is); (case l12 => k_is); (case c12 => k_is); (case k12 => k_is)
    (case a13 => k_is); (case l13 => k_is); (case c13 => k_is); (case k13 => k_is)
    (case a14 => k_is); (case l14 => k_is); (case c14 => k_is); (case k14 => k_is)
    (case g1 => k_is); (case z1 => k_is); (case z2 => k_is); (case z3 => k_is)
    (case z4 => k_is); (case z5 => k_is); (case z6 => k_is); (case z7 => k_is)
    (case z8 => k_is)

