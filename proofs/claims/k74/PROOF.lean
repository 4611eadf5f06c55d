import PyProof.Rows.All
import Wide.All
import OpenK.AllK
import Wide.FinOn
import HandS.ForMost
import HandS.ForExc
import HandS.Wide
import HandS.IsInst
import HandS.FStr
import HandS.NoneIn
import HandS.ExcCtx
import HandS.HotCalls
import HandS.ExcInit
import HandS.ExcField
import HandS.ExcIs
import KE.KExcIs
import HandS.Defaults
import HandS.Ends
import HandS.Head0
import HandS.Head1
import HandS.Head2
import HandS.HeadEnd
import HandS.HeadHook1
import HandS.HeadHook2
import PySem.Challenge.RW_farthestcut_k74_fractions_written
set_option Elab.async false
set_option linter.all false
set_option maxRecDepth 100000
set_option maxHeartbeats 4000000
namespace QQ
open PySem PySem.Spec PyProof.Rows L2
abbrev Takes (X : Cx) (W : WX) : Prop := L2N.Takes X W
theorem takesZ {X : Cx} : Takes X (fun _ _ _ _ => False) := by
  intro _ _ x
  obtain ⟨_, _, _, _, _, _, _, _, _, _, _, _, _, _, _, _, z⟩ := x
  exact z.elim
/-! ## values -/
mutual
inductive Rp (K : PySem.W.Frag) (G : Hp) : V → PyData → Prop
  | non : Rp K G .non .none
  | bl (b : Bool) : Rp K G (.bl b) (.bool b)
  | int (i : Int) : Rp K G (.int i) (.int i)
  | str (x : Str) : Rp K G (.str x) (.str x)
  | lst {a : Addr} {xs : List V} {ds : List PyData} : G a = some (.lst xs) → RpA K G xs ds → Rp K G (.ref a) (.list ds)
  | tup {a : Addr} {xs : List V} {ds : List PyData} : SqT K G a xs → RpA K G xs ds → Rp K G (.ref a) (.tuple ds)
inductive RpA (K : PySem.W.Frag) (G : Hp) : List V → List PyData → Prop
  | nil : RpA K G [] []
  | cons {v : V} {vs : List V} {d : PyData} {ds : List PyData} : Rp K G v d → RpA K G vs ds → RpA K G (v :: vs) (d :: ds)
end
section
variable {K : PySem.W.Frag} {G G' : Hp}
theorem sqt_mono (e : Same G G') {a : Addr} {xs : List V} (h : SqT K G a xs) : SqT K G' a xs := by
  rcases h with (h | ⟨o, h⟩) | h
  · exact .inl (.inl (e _ _ h))
  · exact .inl (.inr ⟨o, e _ _ h⟩)
  · exact .inr h
mutual
theorem Rp.mono (e : Same G G') : ∀ (d : PyData) (v : V), Rp K G v d → Rp K G' v d
  | .none, _, h => by cases h; exact .non
  | .bool b, _, h => by cases h; exact .bl b
  | .int i, _, h => by cases h; exact .int i
  | .str x, _, h => by cases h; exact .str x
  | .list ds, _, h => by
    cases h with
    | lst h1 h2 => exact .lst (e _ _ h1) (RpA.mono e ds _ h2)
  | .tuple ds, _, h => by
    cases h with
    | tup h1 h2 => exact .tup (sqt_mono e h1) (RpA.mono e ds _ h2)
  | .dict _, _, h => by cases h
theorem RpA.mono (e : Same G G') : ∀ (ds : List PyData) (vs : List V), RpA K G vs ds → RpA K G' vs ds
  | [], _, h => by cases h; exact .nil
  | d :: ds, _, h => by
    cases h with
    | cons h1 h2 => exact .cons (Rp.mono e d _ h1) (RpA.mono e ds _ h2)
end
mutual
theorem Rp.dp : ∀ (d : PyData) (v : V), Rp K G v d → Dp K G v d
  | .none, _, h => by cases h; exact .non
  | .bool b, _, h => by cases h; exact .bl b
  | .int i, _, h => by cases h; exact .int i
  | .str x, _, h => by cases h; exact .str x
  | .list ds, _, h => by
    cases h with
    | lst h1 h2 => exact .lst (SqL.of h1) (RpA.dp ds _ h2)
  | .tuple ds, _, h => by
    cases h with
    | tup h1 h2 => exact .tup h1 (RpA.dp ds _ h2)
  | .dict _, _, h => by cases h
theorem RpA.dp : ∀ (ds : List PyData) (vs : List V), RpA K G vs ds → DpAll K G vs ds
  | [], _, h => by cases h; exact .nil
  | d :: ds, _, h => by
    cases h with
    | cons h1 h2 => exact .cons (Rp.dp d _ h1) (RpA.dp ds _ h2)
end
theorem RpA.length : ∀ (ds : List PyData) (vs : List V), RpA K G vs ds → vs.length = ds.length
  | [], _, h => by cases h; rfl
  | d :: ds, _, h => by
    cases h with
    | cons h1 h2 => simp [RpA.length ds _ h2]
theorem RpA.get : ∀ (ds : List PyData) (vs : List V), RpA K G vs ds → ∀ (i : Nat) (d : PyData), ds[i]? = some d → ∃ v, vs[i]? = some v ∧ Rp K G v d
  | [], _, _, i, d, e => by simp at e
  | d :: ds, _, h, 0, d', e => by
    cases h with
    | cons h1 h2 => simp at e; subst e; exact ⟨_, rfl, h1⟩
  | d :: ds, _, h, i + 1, d', e => by
    cases h with
    | cons h1 h2 =>
      obtain ⟨v, e1, e2⟩ := RpA.get ds _ h2 i d' (by simpa using e)
      exact ⟨v, by simpa using e1, e2⟩
theorem RpA.app : ∀ {ds es : List PyData} {vs us : List V}, RpA K G vs ds → RpA K G us es → RpA K G (vs ++ us) (ds ++ es)
  | [], _, _, _, h, k => by cases h; exact k
  | d :: ds, _, _, _, h, k => by
    cases h with
    | cons h1 h2 => exact .cons h1 (RpA.app h2 k)
theorem RpA.take : ∀ {ds : List PyData} {vs : List V} (n : Nat), RpA K G vs ds → RpA K G (vs.take n) (ds.take n)
  | ds, vs, 0, _ => by simp; exact .nil
  | [], _, n + 1, h => by cases h; exact .nil
  | d :: ds, _, n + 1, h => by
    cases h with
    | cons h1 h2 => exact .cons h1 (RpA.take n h2)
theorem RpA.drop : ∀ {ds : List PyData} {vs : List V} (n : Nat), RpA K G vs ds → RpA K G (vs.drop n) (ds.drop n)
  | ds, vs, 0, h => h
  | [], _, n + 1, h => by cases h; exact .nil
  | d :: ds, _, n + 1, h => by
    cases h with
    | cons h1 h2 => exact RpA.drop n h2
theorem RpA.strs : ∀ (ys : List Str), RpA K G (ys.map V.str) (ys.map PyData.str)
  | [] => .nil
  | y :: ys => .cons (.str y) (RpA.strs ys)
theorem RpA.ints : ∀ (ys : List Int), RpA K G (ys.map V.int) (ys.map PyData.int)
  | [] => .nil
  | y :: ys => .cons (.int y) (RpA.ints ys)
theorem RpA.of_strs : ∀ (ys : List Str) (vs : List V), RpA K G vs (ys.map PyData.str) → vs = ys.map V.str
  | [], _, h => by cases h; rfl
  | y :: ys, _, h => by
    cases h with
    | cons h1 h2 => cases h1; simp [RpA.of_strs ys _ h2]
end
/-- an abstract value: data (nothing changes it), an object of one's own, a list of data that may be frozen (the script), a class -/
inductive AV where
  | dat (d : PyData) | ptr (p : Addr) | fz (ds : List PyData) | ty (n : String) | cl (C : Addr) | ex (a C : Addr) (d : Option Addr) (fs : Option (List (Str × PyData)))
/-- the own dict of an exception: none, or a datum -/
def DRep (K : PySem.W.Frag) (G : Hp) : Option Addr → Option (List (Str × PyData)) → Prop
  | none, none => True
  | some d, some fs => ∃ gs, G d = some (.xd gs) ∧ Paired (fun (a : Str × V) (b : Str × PyData) => a.1 = b.1 ∧ Rp K G a.2 b.2) gs fs
  | _, _ => False
theorem DRep.mono {K : PySem.W.Frag} {G G' : Hp} (e : Same G G') : ∀ {d : Option Addr} {fs : Option (List (Str × PyData))}, DRep K G d fs → DRep K G' d fs
  | none, none, _ => trivial
  | some _, some _, ⟨gs, h1, h2⟩ => ⟨gs, e _ _ h1, Paired.mapP h2 fun _ _ r => ⟨r.1, Rp.mono e _ _ r.2⟩⟩
  | none, some _, h => h.elim
  | some _, none, h => h.elim
def Av (K : PySem.W.Frag) (G : Hp) (v : V) : AV → Prop
  | .dat d => Rp K G v d
  | .ptr p => v = .ref p
  | .fz ds => ∃ a xs, v = .ref a ∧ SqL K G a xs ∧ RpA K G xs ds
  | .ty n => v = .ty n
  | .cl C => v = .ref C
  | .ex a _ d fs => v = .ref a ∧ DRep K G d fs
theorem Av.mono {K : PySem.W.Frag} {G G' : Hp} (e : Same G G') {v : V} : ∀ {a : AV}, Av K G v a → Av K G' v a
  | .dat d, h => Rp.mono e d v h
  | .ptr p, h => h
  | .fz ds, ⟨a, xs, e1, e2, e3⟩ => ⟨a, xs, e1, e.seq e2, RpA.mono e _ _ e3⟩
  | .ty _, h => h
  | .cl _, h => h
  | .ex _ _ _ _, h => ⟨h.1, h.2.mono e⟩
/-- what an own object holds -/
inductive MC where
  | lst (xs : List AV) | dic (kvs : List (Key × AV)) | ins (C : Addr) (fs : List (Str × AV))
abbrev Mu := Addr → Option MC
def Mu.up (m : Mu) (p : Addr) (c : MC) : Mu := fun q => if q = p then some c else m q
def Mu.no (m : Mu) (p : Addr) : Mu := fun q => if q = p then none else m q
abbrev AvP (K : PySem.W.Frag) (G : Hp) {κ : Type} (a : κ × V) (b : κ × AV) : Prop := a.1 = b.1 ∧ Av K G a.2 b.2
def MOk (K : PySem.W.Frag) (G H : Hp) (p : Addr) : MC → Prop
  | .lst as => ∃ xs, H p = some (.lst xs) ∧ Paired (Av K G) xs as
  | .dic kvs => ∃ ks, H p = some (.dK ks) ∧ Paired (AvP K G) ks kvs
  | .ins C fs => ∃ dx gs, H p = some (.ins C dx gs) ∧ Paired (AvP K G) gs fs
theorem MOk.mono {K : PySem.W.Frag} {G G' H H' : Hp} {p : Addr} (e : Same G G') (h : H' p = H p) : ∀ {c : MC}, MOk K G H p c → MOk K G' H' p c
  | .lst _, ⟨xs, h1, h2⟩ => ⟨xs, h.trans h1, Paired.mapP h2 fun _ _ r => r.mono e⟩
  | .dic _, ⟨xs, h1, h2⟩ => ⟨xs, h.trans h1, Paired.mapP h2 fun _ _ r => ⟨r.1, r.2.mono e⟩⟩
  | .ins _ _, ⟨dx, xs, h1, h2⟩ => ⟨dx, xs, h.trans h1, Paired.mapP h2 fun _ _ r => ⟨r.1, r.2.mono e⟩⟩
/-- a state: the data that stand for ever, the whole heap, one's own objects -/
structure Wd (K : PySem.W.Frag) where
  G : Hp
  H : Hp
  m : Mu
  ext : Same G H
  own : ∀ p c, m p = some c → G p = none ∧ MOk K G H p c
section
variable {K : PySem.W.Frag}
theorem Wd.free (s : Wd K) {p : Addr} (h : s.H p = none) : s.G p = none := by
  cases e : s.G p with
  | none => rfl
  | some o => rw [s.ext _ _ e] at h; cases h
theorem Wd.mfree (s : Wd K) {p : Addr} (h : s.H p = none) : s.m p = none := by
  cases e : s.m p with
  | none => rfl
  | some c =>
    have k := (s.own p c e).2
    cases c with
    | lst _ => obtain ⟨_, z, _⟩ := k; rw [h] at z; cases z
    | dic _ => obtain ⟨_, z, _⟩ := k; rw [h] at z; cases z
    | ins _ _ => obtain ⟨_, _, z, _⟩ := k; rw [h] at z; cases z
theorem same_new {H : Hp} {p : Addr} {o : HO} (h : H p = none) : Same H (upd H p o) := fun b u e => by
  rw [upd_ne (ne_of_none e h)]; exact e
/-- a new datum -/
def Wd.newG (s : Wd K) (p : Addr) (o : HO) (h : s.H p = none) : Wd K where
  G := upd s.G p o
  H := upd s.H p o
  m := s.m
  ext := fun b u e => by
    by_cases hb : b = p
    · subst hb; rw [upd_same] at e ⊢; exact e
    · rw [upd_ne hb] at e ⊢; exact s.ext _ _ e
  own := fun q c e => by
    have hq : q ≠ p := fun z => by subst z; rw [s.mfree h] at e; cases e
    obtain ⟨a, b⟩ := s.own q c e
    exact ⟨by rw [upd_ne hq]; exact a, b.mono (same_new (s.free h)) (upd_ne hq)⟩
theorem Wd.newG_same (s : Wd K) (p : Addr) (o : HO) (h : s.H p = none) : Same s.G (s.newG p o h).G := same_new (s.free h)
/-- a new object of one's own -/
def Wd.newM (s : Wd K) (p : Addr) (o : HO) (c : MC) (h : s.H p = none) (k : MOk K s.G (upd s.H p o) p c) : Wd K where
  G := s.G
  H := upd s.H p o
  m := s.m.up p c
  ext := fun b u e => by
    rw [upd_ne (ne_of_none e (s.free h))]; exact s.ext _ _ e
  own := fun q d e => by
    unfold Mu.up at e
    split at e
    · rename_i z; subst z; cases e; exact ⟨s.free h, k⟩
    · rename_i hq
      obtain ⟨a, b⟩ := s.own q d e
      exact ⟨a, b.mono (fun _ _ e => e) (upd_ne hq)⟩
/-- an own object changes -/
def Wd.put (s : Wd K) (p : Addr) (o : HO) (c : MC) (hp : (s.m p).isSome) (k : MOk K s.G (upd s.H p o) p c) : Wd K where
  G := s.G
  H := upd s.H p o
  m := s.m.up p c
  ext := fun b u e => by
    obtain ⟨d, hd⟩ := Option.isSome_iff_exists.mp hp
    have z := (s.own p d hd).1
    have hb : b ≠ p := fun w => by subst w; rw [z] at e; cases e
    rw [upd_ne hb]; exact s.ext _ _ e
  own := fun q d e => by
    obtain ⟨d0, hd⟩ := Option.isSome_iff_exists.mp hp
    unfold Mu.up at e
    split at e
    · rename_i z; subst z; cases e; exact ⟨(s.own _ d0 hd).1, k⟩
    · rename_i hq
      obtain ⟨a, b⟩ := s.own q d e
      exact ⟨a, b.mono (fun _ _ e => e) (upd_ne hq)⟩
/-- own objects are let go -/
def Wd.less (s : Wd K) (m : Mu) (h : ∀ p c, m p = some c → s.m p = some c) : Wd K := { s with m := m, own := fun p c e => s.own p c (h p c e) }
/-- an own object becomes a datum -/
def Wd.fix (s : Wd K) (p : Addr) (o : HO) (hp : (s.m p).isSome) (ho : s.H p = some o) : Wd K where
  G := upd s.G p o
  H := s.H
  m := s.m.no p
  ext := fun b u e => by
    by_cases hb : b = p
    · subst hb; rw [upd_same] at e; rw [ho]; exact e
    · rw [upd_ne hb] at e; exact s.ext _ _ e
  own := fun q c e => by
    obtain ⟨d0, hd⟩ := Option.isSome_iff_exists.mp hp
    unfold Mu.no at e
    split at e
    · cases e
    · rename_i hq
      obtain ⟨a, b⟩ := s.own q c e
      exact ⟨by rw [upd_ne hq]; exact a, b.mono (same_new (s.own p d0 hd).1) rfl⟩
end
/-- the slots -/
abbrev Dl := List (Option AV)
def Sd (K : PySem.W.Frag) (G : Hp) (σ : L2.St) (δ : Dl) : Prop := ∀ (i : Nat) (a : AV), δ[i]? = some (some a) → ∃ v, σ[i]? = some (some v) ∧ Av K G v a
theorem Sd.mono {K : PySem.W.Frag} {G G' : Hp} (e : Same G G') {σ : L2.St} {δ : Dl} (h : Sd K G σ δ) : Sd K G' σ δ := fun i a q => by
  obtain ⟨v, e1, e2⟩ := h i a q
  exact ⟨v, e1, e2.mono e⟩
theorem Sd.set {K : PySem.W.Frag} {G : Hp} {σ : L2.St} {δ : Dl} (h : Sd K G σ δ) (hl : δ.length = σ.length) {i : Nat} {v : V} {a : AV} (r : Av K G v a) : Sd K G (σ.set i (some v)) (δ.set i (some a)) := fun j b q => by
  by_cases hj : i = j
  · subst hj
    by_cases hi : i < δ.length
    · rw [List.getElem?_set_self hi] at q
      cases q
      exact ⟨v, by rw [List.getElem?_set_self (by omega)], r⟩
    · rw [List.getElem?_eq_none (by simpa using hi)] at q; cases q
  · rw [List.getElem?_set_ne hj] at q
    rw [List.getElem?_set_ne hj]
    exact h j b q
/-- with the lengths -/
structure Sl (K : PySem.W.Frag) (G : Hp) (σ : L2.St) (δ : Dl) : Prop where
  len : δ.length = σ.length
  at' : Sd K G σ δ
theorem Sl.mono {K : PySem.W.Frag} {G G' : Hp} (e : Same G G') {σ : L2.St} {δ : Dl} (h : Sl K G σ δ) : Sl K G' σ δ := ⟨h.len, h.at'.mono e⟩
theorem Sl.set {K : PySem.W.Frag} {G : Hp} {σ : L2.St} {δ : Dl} (h : Sl K G σ δ) {i : Nat} {v : V} {a : AV} (r : Av K G v a) : Sl K G (σ.set i (some v)) (δ.set i (some a)) := ⟨by simp [h.len], h.at'.set h.len r⟩
/-- a wish about exceptions: the class, the fields, the slots, the own objects -/
abbrev Om := Addr → Option (List (Str × PyData)) → Dl → Mu → Prop
def om0 : Om := fun _ _ _ _ => False
/-- the slots, and the wish of exceptions is taken -/
structure Sk (X : Cx) (Ω : Om) (G : Hp) (σ : L2.St) (δ : Dl) : Prop where
  sl : Sl X.K G σ δ
  kx : ∃ W : WX, Takes X W ∧ ∀ C fs d δ' σ' (t : Wd X.K), Ω C fs δ' t.m → Same G t.G → Sl X.K t.G σ' δ' → DRep X.K t.G d fs → W (.ref C) d σ' t.H
theorem Sk.to {X : Cx} {Ω : Om} {G G' : Hp} {σ σ' : L2.St} {δ δ' : Dl} (h : Sk X Ω G σ δ) (e : Same G G') (k : Sl X.K G' σ' δ') : Sk X Ω G' σ' δ' := ⟨k, by
  obtain ⟨W, tk, q⟩ := h.kx
  exact ⟨W, tk, fun C fs d δ' σ' t o g => q C fs d δ' σ' t o (e.trans g)⟩⟩
theorem Sk.mono {X : Cx} {Ω : Om} {G G' : Hp} {σ : L2.St} {δ : Dl} (e : Same G G') (h : Sk X Ω G σ δ) : Sk X Ω G' σ δ := h.to e (h.sl.mono e)
theorem Sk.at' {X : Cx} {Ω : Om} {G : Hp} {σ : L2.St} {δ : Dl} (h : Sk X Ω G σ δ) : Sd X.K G σ δ := h.sl.at'
/-! ## what holds of code, by its syntax -/
def wE (X : Cx) (e : Expr) : TE := fun σ H Q => ∀ pins sh, Inv X pins σ H sh → wpAny (model X.prog X.w) X.A (eval e X.env) (EP X pins σ Q) X.xe sh
theorem wE.pe {X : Cx} {e : Expr} : PE X e (wE X e) := ⟨fun pins sh _ _ _ I h => h pins sh I⟩
def wT (X : Cx) (e : Expr) : TT := fun σ H Q => ∀ pins sh, Inv X pins σ H sh → wpAny (model X.prog X.w) X.A (isTrue e X.env (eval e X.env)) (TP X pins σ Q) X.xe sh
theorem wT.pt {X : Cx} {e : Expr} : PT X e (wT X e) := ⟨fun pins sh _ _ _ I h => h pins sh I⟩
def wW (X : Cx) (e : Expr) : TT := fun σ H Q => ∀ whole pins sh, Inv X pins σ H sh → wpAny (model X.prog X.w) X.A (isTrue e X.env whole) (TP X pins σ Q) X.xe sh
theorem wW.pw {X : Cx} {e : Expr} : PW X e (wW X e) := ⟨fun whole pins sh _ _ _ I h => h whole pins sh I⟩
def wA (X : Cx) (es : List Expr) : TA := fun σ H Q => ∀ pos pins sh, Inv X pins σ H sh → wpAny (model X.prog X.w) X.A (spliced (backTo pos (starEach es X.env))) (AP X pins σ Q) X.xe sh
theorem wA.pa {X : Cx} {es : List Expr} : PA X es (wA X es) := ⟨fun pos pins sh _ _ _ I h => h pos pins sh I⟩
def wS (X : Cx) (st : Stmt) : TS := fun D σ H => ∀ pins sh, Inv X pins σ H sh → wpAny (model X.prog X.w) X.A (exec st X.env) (SP X pins D) X.xe sh
theorem wS.ps {X : Cx} {st : Stmt} : PS X st (wS X st) := ⟨fun pins sh _ _ _ I h => h pins sh I⟩
def wB (X : Cx) (st : List Stmt) : TS := fun D σ H => ∀ pins sh, Inv X pins σ H sh → wpAny (model X.prog X.w) X.A (execs st X.env) (SP X pins D) X.xe sh
theorem wB.pss {X : Cx} {st : List Stmt} : PSs X st (wB X st) := ⟨fun pins sh _ _ _ I h => h pins sh I⟩
/-- the ends -/
def K1 (K : PySem.W.Frag) (s : Wd K) (P : AV → Mu → Prop) (Q : VK) : Prop := ∀ (a : AV) (v : V) (t : Wd K), P a t.m → Same s.G t.G → Av K t.G v a → Q v t.H
def KB (K : PySem.W.Frag) (s : Wd K) (P : Bool → Mu → Prop) (Q : Bool → Hp → Prop) : Prop := ∀ (b : Bool) (t : Wd K), P b t.m → Same s.G t.G → Q b t.H
def KA (K : PySem.W.Frag) (s : Wd K) (P : List AV → Mu → Prop) (Q : List V → Hp → Prop) : Prop := ∀ (as : List AV) (vs : List V) (t : Wd K), P as t.m → Same s.G t.G → Paired (Av K t.G) vs as → Q vs t.H
theorem K1.back {K : PySem.W.Frag} {s t : Wd K} {P : AV → Mu → Prop} {Q : VK} (h : K1 K s P Q) (e : Same s.G t.G) : K1 K t P Q := fun a v u p g r => h a v u p (e.trans g) r
theorem KB.back {K : PySem.W.Frag} {s t : Wd K} {P : Bool → Mu → Prop} {Q : Bool → Hp → Prop} (h : KB K s P Q) (e : Same s.G t.G) : KB K t P Q := fun a u p g => h a u p (e.trans g)
theorem KA.back {K : PySem.W.Frag} {s t : Wd K} {P : List AV → Mu → Prop} {Q : List V → Hp → Prop} (h : KA K s P Q) (e : Same s.G t.G) : KA K t P Q := fun a v u p g r => h a v u p (e.trans g) r
structure Ee (X : Cx) (Ω : Om) (e : Expr) (δ : Dl) (m : Mu) (P : AV → Mu → Prop) : Prop where
  run : ∀ (s : Wd X.K) (σ : L2.St) (Q : VK), s.m = m → Sk X Ω s.G σ δ → K1 X.K s P Q → wE X e σ s.H Q
instance {X : Cx} {Ω : Om} {e : Expr} {δ : Dl} {m : Mu} {P : AV → Mu → Prop} : CoeFun (Ee X Ω e δ m P) (fun _ => ∀ (s : Wd X.K) (σ : L2.St) (Q : VK), s.m = m → Sk X Ω s.G σ δ → K1 X.K s P Q → wE X e σ s.H Q) := ⟨Ee.run⟩
structure Et (X : Cx) (Ω : Om) (e : Expr) (δ : Dl) (m : Mu) (P : Bool → Mu → Prop) : Prop where
  run : ∀ (s : Wd X.K) (σ : L2.St) (Q : Bool → Hp → Prop), s.m = m → Sk X Ω s.G σ δ → KB X.K s P Q → wT X e σ s.H Q
instance {X : Cx} {Ω : Om} {e : Expr} {δ : Dl} {m : Mu} {P : Bool → Mu → Prop} : CoeFun (Et X Ω e δ m P) (fun _ => ∀ (s : Wd X.K) (σ : L2.St) (Q : Bool → Hp → Prop), s.m = m → Sk X Ω s.G σ δ → KB X.K s P Q → wT X e σ s.H Q) := ⟨Et.run⟩
structure Ew (X : Cx) (Ω : Om) (e : Expr) (δ : Dl) (m : Mu) (P : Bool → Mu → Prop) : Prop where
  run : ∀ (s : Wd X.K) (σ : L2.St) (Q : Bool → Hp → Prop), s.m = m → Sk X Ω s.G σ δ → KB X.K s P Q → wW X e σ s.H Q
instance {X : Cx} {Ω : Om} {e : Expr} {δ : Dl} {m : Mu} {P : Bool → Mu → Prop} : CoeFun (Ew X Ω e δ m P) (fun _ => ∀ (s : Wd X.K) (σ : L2.St) (Q : Bool → Hp → Prop), s.m = m → Sk X Ω s.G σ δ → KB X.K s P Q → wW X e σ s.H Q) := ⟨Ew.run⟩
structure Ea (X : Cx) (Ω : Om) (es : List Expr) (δ : Dl) (m : Mu) (P : List AV → Mu → Prop) : Prop where
  run : ∀ (s : Wd X.K) (σ : L2.St) (Q : List V → Hp → Prop), s.m = m → Sk X Ω s.G σ δ → KA X.K s P Q → wA X es σ s.H Q
instance {X : Cx} {Ω : Om} {es : List Expr} {δ : Dl} {m : Mu} {P : List AV → Mu → Prop} : CoeFun (Ea X Ω es δ m P) (fun _ => ∀ (s : Wd X.K) (σ : L2.St) (Q : List V → Hp → Prop), s.m = m → Sk X Ω s.G σ δ → KA X.K s P Q → wA X es σ s.H Q) := ⟨Ea.run⟩
structure En where
  nx : Dl → Mu → Prop
  rt : AV → Mu → Prop
  bk : Dl → Mu → Prop := fun _ _ => False
  ct : Dl → Mu → Prop := fun _ _ => False
structure KE (K : PySem.W.Frag) (s : Wd K) (E : En) (D : Ends) : Prop where
  nx : ∀ δ σ (t : Wd K), E.nx δ t.m → Same s.G t.G → Sl K t.G σ δ → D.nx σ t.H
  rt : ∀ a v (t : Wd K), E.rt a t.m → Same s.G t.G → Av K t.G v a → D.rt v t.H
  bk : ∀ δ σ (t : Wd K), E.bk δ t.m → Same s.G t.G → Sl K t.G σ δ → D.bk σ t.H
  ct : ∀ δ σ (t : Wd K), E.ct δ t.m → Same s.G t.G → Sl K t.G σ δ → D.ct σ t.H
theorem KE.back {K : PySem.W.Frag} {s t : Wd K} {E : En} {D : Ends} (h : KE K s E D) (e : Same s.G t.G) : KE K t E D :=
  ⟨fun δ σ u p g r => h.nx δ σ u p (e.trans g) r, fun a v u p g r => h.rt a v u p (e.trans g) r, fun δ σ u p g r => h.bk δ σ u p (e.trans g) r, fun δ σ u p g r => h.ct δ σ u p (e.trans g) r⟩
structure Es (X : Cx) (Ω : Om) (st : Stmt) (δ : Dl) (m : Mu) (E : En) : Prop where
  run : ∀ (s : Wd X.K) (σ : L2.St) (D : Ends), s.m = m → Sk X Ω s.G σ δ → KE X.K s E D → wS X st D σ s.H
instance {X : Cx} {Ω : Om} {st : Stmt} {δ : Dl} {m : Mu} {E : En} : CoeFun (Es X Ω st δ m E) (fun _ => ∀ (s : Wd X.K) (σ : L2.St) (D : Ends), s.m = m → Sk X Ω s.G σ δ → KE X.K s E D → wS X st D σ s.H) := ⟨Es.run⟩
structure Eb (X : Cx) (Ω : Om) (st : List Stmt) (δ : Dl) (m : Mu) (E : En) : Prop where
  run : ∀ (s : Wd X.K) (σ : L2.St) (D : Ends), s.m = m → Sk X Ω s.G σ δ → KE X.K s E D → wB X st D σ s.H
instance {X : Cx} {Ω : Om} {st : List Stmt} {δ : Dl} {m : Mu} {E : En} : CoeFun (Eb X Ω st δ m E) (fun _ => ∀ (s : Wd X.K) (σ : L2.St) (D : Ends), s.m = m → Sk X Ω s.G σ δ → KE X.K s E D → wB X st D σ s.H) := ⟨Eb.run⟩
/-! ## expressions -/
section
variable {X : Cx} {Ω : Om} {δ : Dl} {m : Mu} {P : AV → Mu → Prop} {pos p2 : Pos} {a b c e : Expr} {es : List Expr}
theorem Ee.of {t : TE} (h : PE X e t) (k : ∀ (s : Wd X.K) (σ : L2.St) (Q : VK), s.m = m → Sk X Ω s.G σ δ → K1 X.K s P Q → t σ s.H Q) : Ee X Ω e δ m P := ⟨fun s σ Q hm hs kq pins sh I => h.run pins sh σ s.H Q I (k s σ Q hm hs kq)⟩
theorem Et.of {P : Bool → Mu → Prop} {t : TT} (h : PT X e t) (k : ∀ (s : Wd X.K) (σ : L2.St) (Q : Bool → Hp → Prop), s.m = m → Sk X Ω s.G σ δ → KB X.K s P Q → t σ s.H Q) : Et X Ω e δ m P := ⟨fun s σ Q hm hs kq pins sh I => h.run pins sh σ s.H Q I (k s σ Q hm hs kq)⟩
theorem Ew.of {P : Bool → Mu → Prop} {t : TT} (h : PW X e t) (k : ∀ (s : Wd X.K) (σ : L2.St) (Q : Bool → Hp → Prop), s.m = m → Sk X Ω s.G σ δ → KB X.K s P Q → t σ s.H Q) : Ew X Ω e δ m P := ⟨fun s σ Q hm hs kq w pins sh I => h.run w pins sh σ s.H Q I (k s σ Q hm hs kq)⟩
theorem Es.of {st : Stmt} {E : En} {t : TS} (h : PS X st t) (k : ∀ (s : Wd X.K) (σ : L2.St) (D : Ends), s.m = m → Sk X Ω s.G σ δ → KE X.K s E D → t D σ s.H) : Es X Ω st δ m E := ⟨fun s σ Q hm hs kq pins sh I => h.run pins sh σ s.H Q I (k s σ Q hm hs kq)⟩
theorem Eb.of {st : List Stmt} {E : En} {t : TS} (h : PSs X st t) (k : ∀ (s : Wd X.K) (σ : L2.St) (D : Ends), s.m = m → Sk X Ω s.G σ δ → KE X.K s E D → t D σ s.H) : Eb X Ω st δ m E := ⟨fun s σ Q hm hs kq pins sh I => h.run pins sh σ s.H Q I (k s σ Q hm hs kq)⟩
theorem Ee.imp {P' : AV → Mu → Prop} (h : Ee X Ω e δ m P') (k : ∀ a m, P' a m → P a m) : Ee X Ω e δ m P := ⟨fun s σ Q hm hs kq => h s σ Q hm hs fun a v t p g r => kq a v t (k a _ p) g r⟩
/-- own objects are let go behind -/
theorem Ee.less (h : Ee X Ω e δ m fun a m1 => ∃ m2, (∀ p c, m2 p = some c → m1 p = some c) ∧ P a m2) : Ee X Ω e δ m P := ⟨fun s σ Q hm hs kq => h s σ Q hm hs fun a v t ⟨m2, hl, p⟩ g r => kq a v (t.less m2 hl) p g r⟩
theorem e_var {i : Nat} {x : Str} {av : AV} (hN : X.N[i]? = some x) (hd : δ[i]? = some (some av)) (h : P av m) (hv : Vis X.env.scope x := by first | exact Or.inl rfl | exact Or.inr (Or.inl rfl) | exact Or.inr (Or.inr rfl))
    (hdb : (x == ("__debug__" : Str)) = false := by decide) (hcd : (x == ("__classdict__" : Str)) = false := by decide) : Ee X Ω (.Name x pos) δ m P :=
  Ee.of (pe_var hN hv hdb hcd) fun s σ Q hm hs kq => by
    obtain ⟨v, e1, e2⟩ := hs.at' i av hd
    exact ⟨v, e1, kq av v s (hm ▸ h) (Same.refl _) e2⟩
theorem e_int {i : Int} {j : Nat} (h : P (.dat (.int i)) m) : Ee X Ω (.Constant (.int i) j pos) δ m P := Ee.of pe_int fun s σ Q hm hs kq => kq (.dat (.int i)) _ s (hm ▸ h) (Same.refl _) (Rp.int i)
theorem e_bl {i : Bool} {j : Nat} (h : P (.dat (.bool i)) m) : Ee X Ω (.Constant (.bool i) j pos) δ m P := Ee.of pe_bl fun s σ Q hm hs kq => kq (.dat (.bool i)) _ s (hm ▸ h) (Same.refl _) (Rp.bl i)
theorem e_non {j : Nat} (h : P (.dat .none) m) : Ee X Ω (.Constant .none j pos) δ m P := Ee.of pe_non fun s σ Q hm hs kq => kq (.dat .none) _ s (hm ▸ h) (Same.refl _) Rp.non
theorem e_str {x : Str} {j : Nat} (h : P (.dat (.str x)) m) : Ee X Ω (.Constant (.str x) j pos) δ m P := Ee.of pe_str fun s σ Q hm hs kq => kq (.dat (.str x)) _ s (hm ▸ h) (Same.refl _) (Rp.str x)
/-- a module's constant -/
theorem e_glob {x : Str} {v : V} {u : Value} {av : AV} (hm' : X.mg x = some u) (r : RelV v u) (ra : ∀ G, Av X.K G v av) (h : P av m) (hg : Gl X x := by rfl) (hd : (x == ("__debug__" : Str)) = false := by decide) : Ee X Ω (.Name x pos) δ m P :=
  Ee.of (pe_glob hg hm' r hd) fun s σ Q hm hs kq => kq av v s (hm ▸ h) (Same.refl _) (ra _)
/-- a built-in class as a value -/
theorem e_ty {x : Str} {n : String} (hm' : X.mg x = none) (h : P (.ty n) m) (hv : bootBuiltins x = some (.type n) := by decide +kernel) (hg : Gl X x := by rfl) (hn : x ≠ "__name__" := by decide) (hd : (x == ("__debug__" : Str)) = false := by decide) : Ee X Ω (.Name x pos) δ m P :=
  Ee.of (pe_bltn (v := .ty n) hg hm' hv rfl hn hd) fun s σ Q hm hs kq => kq (.ty n) _ s (hm ▸ h) (Same.refl _) rfl
/-- an operation by values -/
structure O2 (K : PySem.W.Frag) (r : R2) (x y : AV) (m : Mu) (P : AV → Mu → Prop) : Prop where
  run : ∀ (s : Wd K) (vx vy : V) (Q : VK), s.m = m → Av K s.G vx x → Av K s.G vy y → K1 K s P Q → r vx vy s.H Q
instance {K : PySem.W.Frag} {r : R2} {x y : AV} {m : Mu} {P : AV → Mu → Prop} : CoeFun (O2 K r x y m P) (fun _ => ∀ (s : Wd K) (vx vy : V) (Q : VK), s.m = m → Av K s.G vx x → Av K s.G vy y → K1 K s P Q → r vx vy s.H Q) := ⟨O2.run⟩
structure O1 (K : PySem.W.Frag) (r : V → Hp → VK → Prop) (x : AV) (m : Mu) (P : AV → Mu → Prop) : Prop where
  run : ∀ (s : Wd K) (vx : V) (Q : VK), s.m = m → Av K s.G vx x → K1 K s P Q → r vx s.H Q
instance {K : PySem.W.Frag} {r : V → Hp → VK → Prop} {x : AV} {m : Mu} {P : AV → Mu → Prop} : CoeFun (O1 K r x m P) (fun _ => ∀ (s : Wd K) (vx : V) (Q : VK), s.m = m → Av K s.G vx x → K1 K s P Q → r vx s.H Q) := ⟨O1.run⟩
structure OA (K : PySem.W.Frag) (r : List V → Hp → VK → Prop) (as : List AV) (m : Mu) (P : AV → Mu → Prop) : Prop where
  run : ∀ (s : Wd K) (vs : List V) (Q : VK), s.m = m → Paired (Av K s.G) vs as → K1 K s P Q → r vs s.H Q
instance {K : PySem.W.Frag} {r : List V → Hp → VK → Prop} {as : List AV} {m : Mu} {P : AV → Mu → Prop} : CoeFun (OA K r as m P) (fun _ => ∀ (s : Wd K) (vs : List V) (Q : VK), s.m = m → Paired (Av K s.G) vs as → K1 K s P Q → r vs s.H Q) := ⟨OA.run⟩
theorem tOp_of {ta tb : TE} {r : R2} {s : Wd X.K} {σ : L2.St} {Q : VK} {m : Mu} {δ : Dl} {P : AV → Mu → Prop} {P1 : AV → Mu → Prop} (hm : s.m = m) (hs : Sk X Ω s.G σ δ) (kq : K1 X.K s P Q)
    (ha : ∀ Q1, K1 X.K s P1 Q1 → ta σ s.H Q1) (hb : ∀ x m1, P1 x m1 → ∀ (s1 : Wd X.K) Q2, s1.m = m1 → Sk X Ω s1.G σ δ → K1 X.K s1 (fun y m2 => O2 X.K r x y m2 P) Q2 → tb σ s1.H Q2) : tOp r ta tb σ s.H Q :=
  ha _ fun x vx s1 p1 g1 r1 => hb x _ p1 s1 _ rfl (hs.mono g1) fun y vy s2 p2 g2 r2 => p2 s2 vx vy Q rfl (r1.mono g2) r2 (kq.back (g1.trans g2))
theorem e_bin {op : Operator} {r : R2} (ho : OpR X (binaryOp op) r) (h : Ee X Ω a δ m fun x m1 => Ee X Ω b δ m1 fun y m2 => O2 X.K r x y m2 P) : Ee X Ω (.BinOp a op b pos) δ m P :=
  Ee.of (pe_op ho wE.pe wE.pe) fun s σ Q hm hs kq => tOp_of hm hs kq (fun Q1 k => h s σ Q1 hm hs k) fun x m1 p s1 Q2 e1 h1 k => p s1 σ Q2 e1 h1 k
theorem e_cmp {op : CmpOp} {r : R2} (ho : OpR X (compareOp op) r) (h : Ee X Ω a δ m fun x m1 => Ee X Ω b δ m1 fun y m2 => O2 X.K r x y m2 P) (hmk : behindInMarks op b = false := by first | rfl | exact nomark _) : Ee X Ω (.Compare a [op] [b] pos) δ m P :=
  Ee.of (pe_cmpR ho wE.pe wE.pe hmk) fun s σ Q hm hs kq => tOp_of hm hs kq (fun Q1 k => h s σ Q1 hm hs k) fun x m1 p s1 Q2 e1 h1 k => p s1 σ Q2 e1 h1 k
theorem e_sub {r : R2} (ho : IxR X r) (h : Ee X Ω a δ m fun x m1 => Ee X Ω b δ m1 fun y m2 => O2 X.K r x y m2 P) (hp : PlainIx b := by exact fun _ _ => rfl) : Ee X Ω (.Subscript a b pos) δ m P :=
  Ee.of (pe_ix ho wE.pe wE.pe hp) fun s σ Q hm hs kq => tOp_of hm hs kq (fun Q1 k => h s σ Q1 hm hs k) fun x m1 p s1 Q2 e1 h1 k => p s1 σ Q2 e1 h1 k
theorem e_un {op : UnaryOp} {r : V → Hp → VK → Prop} (ho : UnR X (unaryOp op) r) (h : Ee X Ω a δ m fun x m1 => O1 X.K r x m1 P) : Ee X Ω (.UnaryOp op a pos) δ m P :=
  Ee.of (pe_un ho wE.pe) fun s σ Q hm hs kq => h s σ _ hm hs fun x vx s1 p1 g1 r1 => p1 s1 vx Q rfl r1 (kq.back g1)
/-- a < b < c -/
theorem e_chain {op op' : CmpOp} {r r' : R2} (ho : OpR X (compareOp op) r) (ho' : OpR X (compareOp op') r')
    (h : Ee X Ω a δ m fun x m1 => Ee X Ω b δ m1 fun y m2 => O2 X.K r x y m2 fun z m3 => ∃ k, z = .dat (.bool k) ∧ if k = true then Ee X Ω c δ m3 fun w m4 => O2 X.K r' y w m4 P else P (.dat (.bool false)) m3)
    (hmk : lastMarks [op, op'] [b, c] = false := by with_unfolding_all rfl) : Ee X Ω (.Compare a [op, op'] [b, c] pos) δ m P :=
  Ee.of (pe_chain ho ho' wE.pe wE.pe wE.pe hmk) fun s σ Q hm hs kq => h s σ _ hm hs fun x vx s1 p1 g1 r1 => p1 s1 σ _ rfl (hs.mono g1) fun y vy s2 p2 g2 r2 => p2 s2 vx vy _ rfl (r1.mono g2) r2 fun z vz s3 ⟨k, ez, p3⟩ g3 r3 => by
    subst ez
    cases r3
    refine ⟨k, rfl, ?_⟩
    cases k with
    | true => exact (show Ee X Ω c δ s3.m _ from p3) s3 σ _ rfl (hs.mono ((g1.trans g2).trans g3)) fun w vw s4 p4 g4 r4 => p4 s4 vy vw Q rfl (r2.mono (g3.trans g4)) r4 (kq.back (((g1.trans g2).trans g3).trans g4))
    | false => exact kq (.dat (.bool false)) _ s3 p3 ((g1.trans g2).trans g3) (Rp.bl false)
/-! and, or, not as values -/
theorem e_one {op : BoolOp} (h : Ee X Ω a δ m P) : Ee X Ω (.BoolOp op [a] pos) δ m P := Ee.of (pe_one wE.pe) fun s σ Q hm hs kq => h s σ Q hm hs kq
theorem e_and (h : Ee X Ω a δ m fun x m1 => ∃ k, x = .dat (.bool k) ∧ if k = true then Ee X Ω (.BoolOp .And (b :: es) pos) δ m1 P else P (.dat (.bool false)) m1) : Ee X Ω (.BoolOp .And (a :: b :: es) pos) δ m P :=
  Ee.of (pe_and wE.pe wE.pe) fun s σ Q hm hs kq => h s σ _ hm hs fun x vx s1 ⟨k, ex, p1⟩ g1 r1 => by
    subst ex
    cases r1
    refine ⟨k, rfl, ?_⟩
    cases k with
    | true => exact (show Ee X Ω _ δ s1.m P from p1) s1 σ Q rfl (hs.mono g1) (kq.back g1)
    | false => exact kq (.dat (.bool false)) _ s1 p1 g1 (Rp.bl false)
theorem e_or (h : Ee X Ω a δ m fun x m1 => ∃ k, x = .dat (.bool k) ∧ if k = true then P (.dat (.bool true)) m1 else Ee X Ω (.BoolOp .Or (b :: es) pos) δ m1 P) : Ee X Ω (.BoolOp .Or (a :: b :: es) pos) δ m P :=
  Ee.of (pe_or wE.pe wE.pe) fun s σ Q hm hs kq => h s σ _ hm hs fun x vx s1 ⟨k, ex, p1⟩ g1 r1 => by
    subst ex
    cases r1
    refine ⟨k, rfl, ?_⟩
    cases k with
    | false => exact (show Ee X Ω _ δ s1.m P from p1) s1 σ Q rfl (hs.mono g1) (kq.back g1)
    | true => exact kq (.dat (.bool true)) _ s1 p1 g1 (Rp.bl true)
theorem e_not (h : Ee X Ω a δ m fun x m1 => ∃ k, x = .dat (.bool k) ∧ P (.dat (.bool (!k))) m1) : Ee X Ω (.UnaryOp .Not a pos) δ m P :=
  Ee.of (pe_not wE.pe) fun s σ Q hm hs kq => h s σ _ hm hs fun x vx s1 ⟨k, ex, p1⟩ g1 r1 => by
    subst ex
    cases r1
    exact ⟨k, rfl, kq (.dat (.bool _)) _ s1 p1 g1 (Rp.bl _)⟩
end
/-! ## tests -/
section
variable {X : Cx} {Ω : Om} {δ : Dl} {m : Mu} {P : Bool → Mu → Prop} {pos p2 : Pos} {a b c e : Expr} {es : List Expr}
theorem t_val (h : Ee X Ω e δ m fun x m1 => ∃ k, x = .dat (.bool k) ∧ P k m1) (he : ∀ whole, isTrue e X.env whole = (do let v ← whole; standAt e.pos; holding [v] (truthy v)) := by intro _; rfl) : Et X Ω e δ m P :=
  Et.of (pt_val wE.pe he) fun s σ Q hm hs kq => h s σ _ hm hs fun x vx s1 ⟨k, ex, p1⟩ g1 r1 => by
    subst ex
    cases r1
    exact ⟨k, rfl, kq _ s1 p1 g1⟩
theorem t_cmp {op : CmpOp} {r : R2} (ho : OpR X (compareOp op) r) (h : Ee X Ω a δ m fun x m1 => Ee X Ω b δ m1 fun y m2 => O2 X.K r x y m2 fun z m3 => ∃ k, z = .dat (.bool k) ∧ P k m3) (hmk : behindInMarks op b = false := by first | rfl | exact nomark _) : Et X Ω (.Compare a [op] [b] pos) δ m P :=
  Et.of (pt_cmpR ho wE.pe wE.pe hmk) fun s σ Q hm hs kq => tOp_of (δ := δ) (P := fun z m3 => ∃ k, z = .dat (.bool k) ∧ P k m3) hm hs (fun z vz s1 ⟨k, ez, p1⟩ g1 r1 => by
    subst ez
    cases r1
    exact ⟨k, rfl, kq _ s1 p1 g1⟩) (fun Q1 k => h s σ Q1 hm hs k) fun x m1 p s1 Q2 e1 h1 k => p s1 σ Q2 e1 h1 k
theorem t_chain {op op' : CmpOp} {r r' : R2} (ho : OpR X (compareOp op) r) (ho' : OpR X (compareOp op') r')
    (h : Ee X Ω a δ m fun x m1 => Ee X Ω b δ m1 fun y m2 => O2 X.K r x y m2 fun z m3 => ∃ k, z = .dat (.bool k) ∧ if k = true then Ee X Ω c δ m3 fun w m4 => O2 X.K r' y w m4 fun z2 m5 => ∃ k2, z2 = .dat (.bool k2) ∧ P k2 m5 else P false m3)
    (hmk : lastMarks [op, op'] [b, c] = false := by with_unfolding_all rfl) : Et X Ω (.Compare a [op, op'] [b, c] pos) δ m P := by
  refine Et.of (pt_chain ho ho' wE.pe wE.pe wE.pe hmk) fun s σ Q hm hs kq => ?_
  refine h s σ _ hm hs fun x vx s1 p1 g1 r1 => ?_
  refine p1 s1 σ _ rfl (hs.mono g1) fun y vy s2 p2 g2 r2 => ?_
  refine p2 s2 vx vy _ rfl (r1.mono g2) r2 ?_
  rintro z vz s3 ⟨k, ez, p3⟩ g3 r3
  subst ez
  cases r3
  refine ⟨k, rfl, ?_⟩
  cases k with
  | true =>
    have p3' : Ee X Ω c δ s3.m _ := p3
    refine p3' s3 σ _ rfl (hs.mono ((g1.trans g2).trans g3)) fun w vw s4 p4 g4 r4 => ?_
    refine p4 s4 vy vw _ rfl (r2.mono (g3.trans g4)) r4 ?_
    rintro z2 vz2 s5 ⟨k2, ez2, p5⟩ g5 r5
    subst ez2
    cases r5
    exact ⟨k2, rfl, kq _ s5 p5 ((((g1.trans g2).trans g3).trans g4).trans g5)⟩
  | false => exact ⟨false, rfl, kq _ s3 p3 ((g1.trans g2).trans g3)⟩
theorem t_not (h : Et X Ω a δ m fun k m1 => P (!k) m1) : Et X Ω (.UnaryOp .Not a pos) δ m P :=
  Et.of (pt_not wT.pt) fun s σ Q hm hs kq => h s σ _ hm hs fun k s1 p1 g1 => kq _ s1 p1 g1
theorem t_w (h : Ew X Ω e δ m P) : Et X Ω e δ m P := Et.of wW.pw.pt fun s σ Q hm hs kq => h s σ Q hm hs kq
theorem w_and1 (h : Et X Ω a δ m P) : Ew X Ω (.BoolOp .And [a] pos) δ m P := Ew.of (pw_and1 wT.pt) fun s σ Q hm hs kq => h s σ Q hm hs kq
theorem w_or1 (h : Et X Ω a δ m P) : Ew X Ω (.BoolOp .Or [a] pos) δ m P := Ew.of (pw_or1 wT.pt) fun s σ Q hm hs kq => h s σ Q hm hs kq
theorem w_and (h : Et X Ω a δ m fun k m1 => if k = true then Ew X Ω (.BoolOp .And (b :: es) pos) δ m1 P else P false m1) : Ew X Ω (.BoolOp .And (a :: b :: es) pos) δ m P :=
  Ew.of (pw_and wT.pt wW.pw) fun s σ Q hm hs kq => h s σ _ hm hs fun k s1 p1 g1 => by
    cases k with
    | true => exact (show Ew X Ω _ δ s1.m P from p1) s1 σ Q rfl (hs.mono g1) (kq.back g1)
    | false => exact kq _ s1 p1 g1
theorem w_or (h : Et X Ω a δ m fun k m1 => if k = true then P true m1 else Ew X Ω (.BoolOp .Or (b :: es) pos) δ m1 P) : Ew X Ω (.BoolOp .Or (a :: b :: es) pos) δ m P :=
  Ew.of (pw_or wT.pt wW.pw) fun s σ Q hm hs kq => h s σ _ hm hs fun k s1 p1 g1 => by
    cases k with
    | false => exact (show Ew X Ω _ δ s1.m P from p1) s1 σ Q rfl (hs.mono g1) (kq.back g1)
    | true => exact kq _ s1 p1 g1
end
section
variable {X : Cx} {Ω : Om} {δ : Dl} {m : Mu} {P : AV → Mu → Prop} {pos p2 : Pos} {a b c e : Expr} {es : List Expr}
theorem e_ifExp (h : Et X Ω c δ m fun k m1 => if k = true then Ee X Ω a δ m1 P else Ee X Ω b δ m1 P) : Ee X Ω (.IfExp c a b pos) δ m P :=
  Ee.of (pe_ifExp wT.pt wE.pe wE.pe) fun s σ Q hm hs kq => h s σ _ hm hs fun k s1 p1 g1 => by
    cases k with
    | true => exact (show Ee X Ω a δ s1.m P from p1) s1 σ Q rfl (hs.mono g1) (kq.back g1)
    | false => exact (show Ee X Ω b δ s1.m P from p1) s1 σ Q rfl (hs.mono g1) (kq.back g1)
/-! ## argument lists, displays -/
theorem a_nil {P : List AV → Mu → Prop} (h : P [] m) : Ea X Ω [] δ m P := ⟨fun s σ Q hm hs kq => fun pos pins sh I => pa_nil.run pos pins sh σ s.H Q I (kq [] [] s (hm ▸ h) (Same.refl _) .nil)⟩
theorem a_cons {P : List AV → Mu → Prop} (h : Ee X Ω a δ m fun x m1 => Ea X Ω es δ m1 fun xs m2 => P (x :: xs) m2) (hst : starEach (a :: es) X.env = (false, eval a X.env) :: starEach es X.env := by rfl) : Ea X Ω (a :: es) δ m P :=
  ⟨fun s σ Q hm hs kq => fun pos pins sh I => (pa_cons wE.pe wA.pa hst).run pos pins sh σ s.H Q I (h s σ _ hm hs fun x vx s1 p1 g1 r1 => p1 s1 σ _ rfl (hs.mono g1) fun xs vs s2 p2 g2 r2 => kq _ _ s2 p2 (g1.trans g2) (.cons (r1.mono g2) r2))⟩
/-- abstract values that are data -/
def datas : List AV → Option (List PyData)
  | [] => some []
  | .dat d :: r => (datas r).map (d :: ·)
  | _ :: _ => none
theorem datas_rp {K : PySem.W.Frag} {G : Hp} : ∀ {as : List AV} {ds : List PyData} {vs : List V}, datas as = some ds → Paired (Av K G) vs as → RpA K G vs ds
  | [], ds, _, e, h => by cases e; cases h; exact .nil
  | .dat d :: r, ds, _, e, h => by
    cases h with
    | cons h1 h2 =>
      unfold datas at e
      cases e2 : datas r with
      | none => rw [e2] at e; cases e
      | some ds2 => rw [e2] at e; cases e; exact .cons h1 (datas_rp e2 h2)
  | .ptr _ :: _, _, _, e, _ => by cases e
  | .fz _ :: _, _, _, e, _ => by cases e
  | .ty _ :: _, _, _, e, _ => by cases e
  | .cl _ :: _, _, _, e, _ => by cases e
structure OT (f : List PyData → PyData) (as : List AV) (m : Mu) (P : AV → Mu → Prop) : Prop where
  ex : ∃ ds, datas as = some ds ∧ as.length ≤ 100000 ∧ P (.dat (f ds)) m
theorem o_T {f : List PyData → PyData} {as : List AV} {ds : List PyData} (h1 : datas as = some ds) (h2 : as.length ≤ 100000) (h : P (.dat (f ds)) m) : OT f as m P := ⟨ds, h1, h2, h⟩
theorem e_tup {k : Nat} (h : Ea X Ω es δ m fun as m1 => OT .tuple as m1 P) : Ee X Ω (.Tuple es k pos) δ m P :=
  Ee.of (pe_tup wA.pa) fun s σ Q hm hs kq => h s σ _ hm hs fun as vs s1 ⟨⟨ds, ed, hl, p1⟩⟩ g1 r1 =>
    ⟨Nat.le_trans (by rw [Paired.length r1]; exact hl) (by decide), fun p hp => kq (.dat (.tuple ds)) _ (s1.newG p (.tup vs) hp) p1 (g1.trans (s1.newG_same _ _ _)) (.tup (.inl (.inl (by exact upd_same))) (RpA.mono (s1.newG_same _ _ _) _ _ (datas_rp ed r1)))⟩
/-- a list display as a datum -/
theorem e_lst (h : Ea X Ω es δ m fun as m1 => OT .list as m1 P) : Ee X Ω (.List es pos) δ m P :=
  Ee.of (pe_lst wA.pa) fun s σ Q hm hs kq => h s σ _ hm hs fun as vs s1 ⟨⟨ds, ed, hl, p1⟩⟩ g1 r1 =>
    ⟨Nat.le_trans (by rw [Paired.length r1]; exact hl) (by decide), fun p hp => kq (.dat (.list ds)) _ (s1.newG p (.lst vs) hp) p1 (g1.trans (s1.newG_same _ _ _)) (.lst (by exact upd_same) (RpA.mono (s1.newG_same _ _ _) _ _ (datas_rp ed r1)))⟩
/-- a list display as an own list -/
theorem e_lstM (h : Ea X Ω es δ m fun as m1 => as.length ≤ 100000 ∧ ∀ p, m1 p = none → P (.ptr p) (m1.up p (.lst as))) : Ee X Ω (.List es pos) δ m P :=
  Ee.of (pe_lst wA.pa) fun s σ Q hm hs kq => h s σ _ hm hs fun as vs s1 ⟨hl, p1⟩ g1 r1 =>
    ⟨Nat.le_trans (by rw [Paired.length r1]; exact hl) (by decide), fun p hp => kq (.ptr p) _ (s1.newM p (.lst vs) (.lst as) hp ⟨vs, upd_same, r1⟩) (p1 p (s1.mfree hp)) g1 rfl⟩
end
/-! ## statements -/
section
variable {X : Cx} {Ω : Om} {δ : Dl} {m : Mu} {nx : Dl → Mu → Prop} {rt : AV → Mu → Prop} {bk ct : Dl → Mu → Prop} {pos p2 : Pos} {a b c e : Expr} {es : List Expr} {st : Stmt} {rest body orelse : List Stmt}
theorem Es.less (h : Es X Ω st δ m ⟨fun δ' m1 => ∃ m2, (∀ p c, m2 p = some c → m1 p = some c) ∧ nx δ' m2, rt, bk, ct⟩) : Es X Ω st δ m ⟨nx, rt, bk, ct⟩ := ⟨fun s σ D hm hs k =>
  h s σ D hm hs ⟨fun δ' σ' t ⟨m2, hl, p⟩ g r => k.nx δ' σ' (t.less m2 hl) p g r, k.rt, k.bk, k.ct⟩⟩
theorem b_nil (h : nx δ m) : Eb X Ω [] δ m ⟨nx, rt, bk, ct⟩ := Eb.of pss_nil fun s σ D hm hs k => k.nx δ σ s (hm ▸ h) (Same.refl _) hs.sl
theorem b_cons (h : Es X Ω st δ m ⟨fun δ' m' => Eb X Ω rest δ' m' ⟨nx, rt, bk, ct⟩, rt, bk, ct⟩) : Eb X Ω (st :: rest) δ m ⟨nx, rt, bk, ct⟩ :=
  Eb.of (pss_cons wS.ps wB.pss) fun s σ D hm hs k => h s σ _ hm hs ⟨fun δ' σ' t p g r => p t σ' D rfl (hs.to g r) (k.back g), k.rt, k.bk, k.ct⟩
theorem s_ret (h : Ee X Ω e δ m rt) : Es X Ω (.Return (some e) pos) δ m ⟨nx, rt, bk, ct⟩ := Es.of (ps_ret wE.pe) fun s σ D hm hs k => h s σ _ hm hs k.rt
theorem s_retN (h : rt (.dat .none) m) : Es X Ω (.Return none pos) δ m ⟨nx, rt, bk, ct⟩ := Es.of ps_retN fun s σ D hm hs k => k.rt (.dat .none) _ s (hm ▸ h) (Same.refl _) Rp.non
theorem s_expr (h : Ee X Ω e δ m fun _ m1 => nx δ m1) (hsw : swapsWith e none pos.line X.env = pure false := by rfl) : Es X Ω (.Expr e pos) δ m ⟨nx, rt, bk, ct⟩ :=
  Es.of (ps_expr wE.pe hsw) fun s σ D hm hs k => h s σ _ hm hs fun _ _ t p g _ => k.nx δ σ t p g (hs.sl.mono g)
theorem s_pass (h : nx δ m) : Es X Ω (.Pass pos) δ m ⟨nx, rt, bk, ct⟩ := Es.of ps_pass fun s σ D hm hs k => k.nx δ σ s (hm ▸ h) (Same.refl _) hs.sl
theorem s_break (h : bk δ m) : Es X Ω (.Break pos) δ m ⟨nx, rt, bk, ct⟩ := Es.of ps_break fun s σ D hm hs k => k.bk δ σ s (hm ▸ h) (Same.refl _) hs.sl
theorem s_cont (h : ct δ m) : Es X Ω (.Continue pos) δ m ⟨nx, rt, bk, ct⟩ := Es.of ps_continue fun s σ D hm hs k => k.ct δ σ s (hm ▸ h) (Same.refl _) hs.sl
theorem s_if (h : Et X Ω c δ m fun k m1 => if k = true then Eb X Ω body δ m1 ⟨nx, rt, bk, ct⟩ else Eb X Ω orelse δ m1 ⟨nx, rt, bk, ct⟩) : Es X Ω (.If c body orelse pos) δ m ⟨nx, rt, bk, ct⟩ :=
  Es.of (ps_if wT.pt wB.pss wB.pss) fun s σ D hm hs k => h s σ _ hm hs fun b s1 p1 g1 => by
    cases b with
    | true => exact (show Eb X Ω body δ s1.m ⟨nx, rt, bk, ct⟩ from p1) s1 σ D rfl (hs.mono g1) (k.back g1)
    | false => exact (show Eb X Ω orelse δ s1.m ⟨nx, rt, bk, ct⟩ from p1) s1 σ D rfl (hs.mono g1) (k.back g1)
/-- a test whose answer is one -/
theorem s_ifD (b : Bool) (hc : Et X Ω c δ m fun k m1 => m1 = m ∧ k = b) (h : if b = true then Eb X Ω body δ m ⟨nx, rt, bk, ct⟩ else Eb X Ω orelse δ m ⟨nx, rt, bk, ct⟩) : Es X Ω (.If c body orelse pos) δ m ⟨nx, rt, bk, ct⟩ :=
  s_if ⟨fun s σ Q hm hs kq => hc s σ Q hm hs fun k t ⟨em, ek⟩ g => kq k t (by subst ek; rw [em]; exact h) g⟩
/-- a target by values -/
def Tg (X : Cx) (tg : Expr) (x : AV) (δ : Dl) (m : Mu) (N : Dl → Mu → Prop) : Prop := ∃ g, PG X tg g ∧ ∀ (s : Wd X.K) (σ : L2.St) (v : V) (R : L2.St → Hp → Prop), s.m = m → Sk X Ω s.G σ δ → Av X.K s.G v x → (∀ δ' σ' (t : Wd X.K), N δ' t.m → Same s.G t.G → Sl X.K t.G σ' δ' → R σ' t.H) → g v σ s.H R
def TgA (X : Cx) (tgs : List Expr) (xs : List AV) (δ : Dl) (m : Mu) (N : Dl → Mu → Prop) : Prop := ∃ g, PGs X tgs g ∧ ∀ (s : Wd X.K) (σ : L2.St) (vs : List V) (R : L2.St → Hp → Prop), s.m = m → Sk X Ω s.G σ δ → Paired (Av X.K s.G) vs xs → (∀ δ' σ' (t : Wd X.K), N δ' t.m → Same s.G t.G → Sl X.K t.G σ' δ' → R σ' t.H) → g vs σ s.H R
end
end QQ
set_option maxHeartbeats 4000000
namespace QQ
open PySem PySem.Spec PyProof.Rows L2
/-! ## operations by values -/
section
variable {K : PySem.W.Frag} {G : Hp} {v : V} {m : Mu} {P : AV → Mu → Prop}
theorem av_int {i : Int} (h : Av K G v (.dat (.int i))) : v = .int i := by
  have h' : Rp K G v (.int i) := h
  cases h'; rfl
theorem av_bl {i : Bool} (h : Av K G v (.dat (.bool i))) : v = .bl i := by
  have h' : Rp K G v (.bool i) := h
  cases h'; rfl
theorem av_str {i : Str} (h : Av K G v (.dat (.str i))) : v = .str i := by
  have h' : Rp K G v (.str i) := h
  cases h'; rfl
theorem av_non (h : Av K G v (.dat .none)) : v = .non := by
  have h' : Rp K G v .none := h
  cases h'; rfl
theorem av_tup {ds : List PyData} (h : Av K G v (.dat (.tuple ds))) : ∃ a xs, v = .ref a ∧ SqT K G a xs ∧ RpA K G xs ds := by
  have h' : Rp K G v (.tuple ds) := h
  cases h' with
  | tup h1 h2 => exact ⟨_, _, rfl, h1, h2⟩
theorem av_lst {ds : List PyData} (h : Av K G v (.dat (.list ds))) : ∃ a xs, v = .ref a ∧ G a = some (.lst xs) ∧ RpA K G xs ds := by
  have h' : Rp K G v (.list ds) := h
  cases h' with
  | lst h1 h2 => exact ⟨_, _, rfl, h1, h2⟩
theorem K1.val {s : Wd K} {Q : VK} {d : PyData} (kq : K1 K s P Q) (h : P (.dat d) s.m) (r : Rp K s.G v d) : Q v s.H := kq (.dat d) v s h (Same.refl _) r
theorem K1.new {s : Wd K} {Q : VK} {d : PyData} {p : Addr} {o : HO} (kq : K1 K s P Q) (hp : s.H p = none) (h : P (.dat d) s.m) (r : ∀ G, Same s.G G → G p = some o → Rp K G (.ref p) d) : Q (.ref p) (upd s.H p o) :=
  kq (.dat d) _ (s.newG p o hp) h (s.newG_same p o hp) (r _ (s.newG_same p o hp) upd_same)
theorem sqL_up {s : Wd K} {a : Addr} {xs : List V} (h : SqL K s.G a xs) : SqL K s.H a xs := s.ext.seq h
theorem sqT_up {s : Wd K} {a : Addr} {xs : List V} (h : SqT K s.G a xs) : SqT K s.H a xs := sqt_mono s.ext h
theorem Paired.one {α β : Type} {R : α → β → Prop} {xs : List α} {b : β} (h : Paired R xs [b]) : ∃ a, xs = [a] ∧ R a b := by
  cases h with
  | cons h1 h2 => cases h2; exact ⟨_, rfl, h1⟩
theorem Paired.two {α β : Type} {R : α → β → Prop} {xs : List α} {b c : β} (h : Paired R xs [b, c]) : ∃ a d, xs = [a, d] ∧ R a b ∧ R d c := by
  cases h with
  | cons h1 h2 =>
    obtain ⟨d, rfl, h3⟩ := Paired.one h2
    exact ⟨_, d, rfl, h1, h3⟩
end
theorem OpR.or {X : Cx} {f : Value → Value → Sem Value} {r1 r2 : R2} (h1 : OpR X f r1) (h2 : OpR X f r2) : OpR X f (fun x y H Q => r1 x y H Q ∨ r2 x y H Q) := fun pins s σ H x y v u Q I rx ry h => by
  rcases h with h | h
  · exact h1 pins s σ H x y v u Q I rx ry h
  · exact h2 pins s σ H x y v u Q I rx ry h
theorem CallR.or {X : Cx} {f : Value} {r1 r2 : List V → Hp → VK → Prop} (h1 : CallR X f r1) (h2 : CallR X f r2) : CallR X f (fun x H Q => r1 x H Q ∨ r2 x H Q) := fun pins s σ H xs us Q I rx h => by
  rcases h with h | h
  · exact h1 pins s σ H xs us Q I rx h
  · exact h2 pins s σ H xs us Q I rx h
theorem SlR.or {X : Cx} {r1 r2 : V → Option Int → Option Int → Hp → VK → Prop} (h1 : SlR X r1) (h2 : SlR X r2) : SlR X (fun x l u H Q => r1 x l u H Q ∨ r2 x l u H Q) := by
  intro pins s σ H x v vl vu lo hi sl Q I rx hs pl pu h
  rcases h with h | h
  · exact h1 pins s σ H x v vl vu lo hi sl Q I rx hs pl pu h
  · exact h2 pins s σ H x v vl vu lo hi sl Q I rx hs pl pu h
def rStrAdd : R2 := fun x y H Q => ∃ i j, x = .str i ∧ y = .str j ∧ i.length + j.length ≤ sizeLine ∧ Q (.str (i ++ j)) H
def rAddA : R2 := fun x y H Q => rI0 (fun i j => .int (i + j)) x y H Q ∨ rStrAdd x y H Q ∨ rCat x y H Q
theorem op_addA {X : Cx} : OpR X (binaryOp .Add) rAddA := OpR.or op_add (OpR.or op_add_str op_cat)
def CStrMul (x : Str) (n : Int) : Prop := MulOk x n
def rMulA : R2 := fun x y H Q => rI CMulW (fun i j => .int (i * j)) x y H Q ∨ ∃ z n, x = .str z ∧ y = .int n ∧ MulOk z n ∧ Q (.str (Txt.mul z n)) H
theorem op_mulStr {X : Cx} : OpR X (binaryOp .Mult) (fun x y H Q => ∃ z n, x = .str z ∧ y = .int n ∧ MulOk z n ∧ Q (.str (Txt.mul z n)) H) := by
  intro pins s σ H x y v u Q I rx ry h
  obtain ⟨z, n, rfl, rfl, hk, q⟩ := h
  obtain ⟨t, rfl⟩ := rx
  obtain ⟨t', rfl⟩ := ry
  exact PySem.SB.mul hk fun t2 k => ⟨.str _, H, I.tok k, ⟨t2, rfl⟩, q⟩
theorem op_mulA {X : Cx} : OpR X (binaryOp .Mult) rMulA := OpR.or op_mulW op_mulStr
section
variable {K : PySem.W.Frag} {m : Mu} {P : AV → Mu → Prop}
theorem o_add_int {i j : Int} (h : P (.dat (.int (i + j))) m) : O2 K rAddA (.dat (.int i)) (.dat (.int j)) m P := by
  refine ⟨fun s vx vy Q hm hx hy kq => ?_⟩
  rw [av_int hx, av_int hy]
  exact .inl ⟨i, j, rfl, rfl, kq.val (hm ▸ h) (Rp.int _)⟩
theorem o_add_str {i j : Str} (hl : i.length + j.length ≤ 1000000) (h : P (.dat (.str (i ++ j))) m) : O2 K rAddA (.dat (.str i)) (.dat (.str j)) m P := by
  refine ⟨fun s vx vy Q hm hx hy kq => ?_⟩
  rw [av_str hx, av_str hy]
  exact .inr (.inl ⟨i, j, rfl, rfl, Nat.le_trans hl (by decide), kq.val (hm ▸ h) (Rp.str _)⟩)
theorem o_add_lst {i j : List PyData} (hl : i.length + j.length ≤ 1000000) (h : P (.dat (.list (i ++ j))) m) : O2 K rAddA (.dat (.list i)) (.dat (.list j)) m P := by
  refine ⟨fun s vx vy Q hm hx hy kq => ?_⟩
  obtain ⟨a, xs, rfl, h1, h2⟩ := av_lst hx
  obtain ⟨b, ys, rfl, h3, h4⟩ := av_lst hy
  exact .inr (.inr ⟨a, b, xs, ys, rfl, rfl, s.ext _ _ h1, s.ext _ _ h3, Nat.le_trans (by rw [RpA.length _ _ h2, RpA.length _ _ h4]; exact hl) (by decide), fun p hp =>
    kq.new hp (hm ▸ h) fun G g e => .lst e (RpA.app (RpA.mono g _ _ h2) (RpA.mono g _ _ h4))⟩)
theorem o_sub {i j : Int} (h : P (.dat (.int (i - j))) m) : O2 K (rI0 fun i j => .int (i - j)) (.dat (.int i)) (.dat (.int j)) m P := by
  refine ⟨fun s vx vy Q hm hx hy kq => ?_⟩
  rw [av_int hx, av_int hy]
  exact ⟨i, j, rfl, rfl, kq.val (hm ▸ h) (Rp.int _)⟩
theorem o_I {C : Int → Int → Prop} {g : Int → Int → Int} {i j : Int} (hc : C i j) (h : P (.dat (.int (g i j))) m) : O2 K (rI C fun i j => .int (g i j)) (.dat (.int i)) (.dat (.int j)) m P := by
  refine ⟨fun s vx vy Q hm hx hy kq => ?_⟩
  rw [av_int hx, av_int hy]
  exact ⟨i, j, rfl, rfl, hc, kq.val (hm ▸ h) (Rp.int _)⟩
theorem o_mul {i j : Int} (hc : CMulW i j) (h : P (.dat (.int (i * j))) m) : O2 K rMulA (.dat (.int i)) (.dat (.int j)) m P := by
  refine ⟨fun s vx vy Q hm hx hy kq => ?_⟩
  rw [av_int hx, av_int hy]
  exact .inl ⟨i, j, rfl, rfl, hc, kq.val (hm ▸ h) (Rp.int _)⟩
theorem o_mul_str {i : Str} {j : Int} (hc : MulOk i j) (h : P (.dat (.str (Txt.mul i j))) m) : O2 K rMulA (.dat (.str i)) (.dat (.int j)) m P := by
  refine ⟨fun s vx vy Q hm hx hy kq => ?_⟩
  rw [av_str hx, av_int hy]
  exact .inr ⟨i, j, rfl, rfl, hc, kq.val (hm ▸ h) (Rp.str _)⟩
theorem o_cmp {g : Int → Int → Bool} {i j : Int} (h : P (.dat (.bool (g i j))) m) : O2 K (rI0 fun i j => .bl (g i j)) (.dat (.int i)) (.dat (.int j)) m P := by
  refine ⟨fun s vx vy Q hm hx hy kq => ?_⟩
  rw [av_int hx, av_int hy]
  exact ⟨i, j, rfl, rfl, kq.val (hm ▸ h) (Rp.bl _)⟩
/-! equality -/
def rEqA (K : PySem.W.Frag) : R2 := fun x y H Q => rEq x y H Q ∨ rEqD K x y H Q
def rNeA (K : PySem.W.Frag) : R2 := fun x y H Q => rNe x y H Q ∨ rNeD K x y H Q
theorem op_eqA {X : Cx} (hu : X.A.units + 64 < cLine) : OpR X (compareOp .Eq) (rEqA X.K) := OpR.or op_eq (op_eqD hu)
theorem op_neA {X : Cx} (hu : X.A.units + 64 < cLine) : OpR X (compareOp .NotEq) (rNeA X.K) := OpR.or op_ne (op_neD hu)
def scalD : PyData → PyData → Bool
  | .none, .none => true | .none, .int _ => true | .int _, .none => true | .none, .str _ => true | .str _, .none => true
  | .int _, .int _ => true | .str _, .str _ => true | .bool _, .bool _ => true | .int _, .str _ => true | .str _, .int _ => true
  | _, _ => false
theorem scal_of {K : PySem.W.Frag} {G : Hp} {d e : PyData} {x y : V} (hx : Rp K G x d) (hy : Rp K G y e) (h : scalD d e = true) : scal x y = true ∧ decide (x = y) = PyData.eqv d e := by
  unfold scalD at h
  split at h <;> first
    | (cases hx; cases hy; refine ⟨rfl, ?_⟩; simp [PyData.eqv]; done)
    | (cases hx; cases hy; refine ⟨rfl, ?_⟩; rw [Bool.eq_iff_iff]; simp [PyData.eqv]; done)
    | cases h
theorem o_eqS {d e : PyData} (hs : scalD d e = true) (h : P (.dat (.bool (PyData.eqv d e))) m) : O2 K (rEqA K) (.dat d) (.dat e) m P := by
  refine ⟨fun s vx vy Q hm hx hy kq => ?_⟩
  obtain ⟨h1, h2⟩ := scal_of hx hy hs
  exact .inl ⟨h1, by rw [h2]; exact kq.val (hm ▸ h) (Rp.bl _)⟩
theorem o_neS {d e : PyData} (hs : scalD d e = true) (h : P (.dat (.bool (!PyData.eqv d e))) m) : O2 K (rNeA K) (.dat d) (.dat e) m P := by
  refine ⟨fun s vx vy Q hm hx hy kq => ?_⟩
  obtain ⟨h1, h2⟩ := scal_of hx hy hs
  exact .inl ⟨h1, by rw [h2]; exact kq.val (hm ▸ h) (Rp.bl _)⟩
theorem o_eq {d e : PyData} (hd : SeqAt.shaped d = true) (he : SeqAt.shaped e = true) (h : P (.dat (.bool (PyData.eqv d e))) m) : O2 K (rEqA K) (.dat d) (.dat e) m P := ⟨fun s vx vy Q hm hx hy kq =>
  .inr ⟨d, e, Rp.dp _ _ (Rp.mono s.ext _ _ hx), Rp.dp _ _ (Rp.mono s.ext _ _ hy), hd, he, kq.val (hm ▸ h) (Rp.bl _)⟩⟩
theorem o_ne {d e : PyData} (hd : SeqAt.shaped d = true) (he : SeqAt.shaped e = true) (h : P (.dat (.bool (!PyData.eqv d e))) m) : O2 K (rNeA K) (.dat d) (.dat e) m P := ⟨fun s vx vy Q hm hx hy kq =>
  .inr ⟨d, e, Rp.dp _ _ (Rp.mono s.ext _ _ hx), Rp.dp _ _ (Rp.mono s.ext _ _ hy), hd, he, kq.val (hm ▸ h) (Rp.bl _)⟩⟩
def rIsN : R2 := fun x y H Q => y = .non ∧ Q (.bl (decide (x = .non))) H
def rNotN : R2 := fun x y H Q => y = .non ∧ Q (.bl (!decide (x = .non))) H
def isNon : AV → Bool
  | .dat .none => true
  | _ => false
theorem isNon_of {G : Hp} {v : V} : ∀ {a : AV}, Av K G v a → decide (v = .non) = isNon a
  | .dat d, h => by
    have h' : Rp K G v d := h
    cases h' <;> simp [isNon]
  | .ptr p, h => by
    have h' : v = .ref p := h
    subst h'; simp [isNon]
  | .fz _, ⟨a, xs, e, _⟩ => by subst e; simp [isNon]
  | .ty _, h => by
    have h' : v = .ty _ := h
    subst h'; simp [isNon]
  | .cl _, h => by
    have h' : v = .ref _ := h
    subst h'; simp [isNon]
  | .ex _ _ _ _, h => by
    have h' : v = .ref _ := h.1
    subst h'; simp [isNon]
theorem o_isN {x : AV} (h : P (.dat (.bool (isNon x))) m) : O2 K rIsN x (.dat .none) m P := by
  refine ⟨fun s vx vy Q hm hx hy kq => ?_⟩
  refine ⟨av_non hy, ?_⟩
  rw [isNon_of hx]
  exact kq.val (hm ▸ h) (Rp.bl _)
theorem o_notN {x : AV} (h : P (.dat (.bool (!isNon x))) m) : O2 K rNotN x (.dat .none) m P := by
  refine ⟨fun s vx vy Q hm hx hy kq => ?_⟩
  refine ⟨av_non hy, ?_⟩
  rw [isNon_of hx]
  exact kq.val (hm ▸ h) (Rp.bl _)
/-! one sign in a text -/
def rInSign : R2 := fun x y H Q => ∃ (c : Nat) (z : Str), x = .str ⟨#[c]⟩ ∧ y = .str z ∧ Q (.bl (decide (c ∈ z.cps.toList))) H
def rNotInSign : R2 := fun x y H Q => ∃ (c : Nat) (z : Str), x = .str ⟨#[c]⟩ ∧ y = .str z ∧ Q (.bl (!decide (c ∈ z.cps.toList))) H
theorem o_inSign {c : Nat} {z : Str} (h : P (.dat (.bool (decide (c ∈ z.cps.toList)))) m) : O2 K rInSign (.dat (.str ⟨#[c]⟩)) (.dat (.str z)) m P := by
  refine ⟨fun s vx vy Q hm hx hy kq => ?_⟩
  rw [av_str hx, av_str hy]
  exact ⟨c, z, rfl, rfl, kq.val (hm ▸ h) (Rp.bl _)⟩
theorem o_notInSign {c : Nat} {z : Str} (h : P (.dat (.bool (!decide (c ∈ z.cps.toList)))) m) : O2 K rNotInSign (.dat (.str ⟨#[c]⟩)) (.dat (.str z)) m P := by
  refine ⟨fun s vx vy Q hm hx hy kq => ?_⟩
  rw [av_str hx, av_str hy]
  exact ⟨c, z, rfl, rfl, kq.val (hm ▸ h) (Rp.bl _)⟩
/-! an item -/
theorem RpA.atI {G : Hp} {vs : List V} {ds : List PyData} {i : Int} {d : PyData} (h : RpA K G vs ds) (e : atI ds i = some d) : ∃ v, L2.atI vs i = some v ∧ Rp K G v d := by
  unfold L2.atI at e ⊢
  rw [RpA.length _ _ h]
  cases hn : ixN ds.length i with
  | none => rw [hn] at e; cases e
  | some j =>
    rw [hn] at e
    exact RpA.get _ _ h j d e
theorem Paired.get {α β : Type} {R : α → β → Prop} : ∀ {xs : List α} {ys : List β} (i : Nat) (b : β), Paired R xs ys → ys[i]? = some b → ∃ a, xs[i]? = some a ∧ R a b
  | _, _, i, b, .nil, e => by simp at e
  | _, _, 0, b, .cons r t, e => by simp at e; subst e; exact ⟨_, rfl, r⟩
  | _, _, i + 1, b, .cons r t, e => by
    obtain ⟨a, e1, e2⟩ := Paired.get i b t (by simpa using e)
    exact ⟨a, by simpa using e1, e2⟩
theorem o_ix_tup {ds : List PyData} {i : Int} {d : PyData} (e : atI ds i = some d) (h : P (.dat d) m) : O2 K (rIx K) (.dat (.tuple ds)) (.dat (.int i)) m P := by
  refine ⟨fun s vx vy Q hm hx hy kq => ?_⟩
  obtain ⟨a, xs, rfl, h1, h2⟩ := av_tup hx
  obtain ⟨v, e1, e2⟩ := h2.atI e
  rw [av_int hy]
  exact .inr (.inl ⟨a, xs, i, v, rfl, rfl, sqT_up h1, e1, kq.val (hm ▸ h) e2⟩)
theorem o_ix_lst {ds : List PyData} {i : Int} {d : PyData} (e : atI ds i = some d) (h : P (.dat d) m) : O2 K (rIx K) (.dat (.list ds)) (.dat (.int i)) m P := by
  refine ⟨fun s vx vy Q hm hx hy kq => ?_⟩
  obtain ⟨a, xs, rfl, h1, h2⟩ := av_lst hx
  obtain ⟨v, e1, e2⟩ := h2.atI e
  rw [av_int hy]
  exact .inl ⟨a, xs, i, v, rfl, rfl, sqL_up (SqL.of h1), e1, kq.val (hm ▸ h) e2⟩
theorem o_ix_fz {ds : List PyData} {i : Int} {d : PyData} (e : atI ds i = some d) (h : P (.dat d) m) : O2 K (rIx K) (.fz ds) (.dat (.int i)) m P := by
  refine ⟨fun s vx vy Q hm hx hy kq => ?_⟩
  obtain ⟨a, xs, rfl, h1, h2⟩ := hx
  obtain ⟨v, e1, e2⟩ := h2.atI e
  rw [av_int hy]
  exact .inl ⟨a, xs, i, v, rfl, rfl, sqL_up h1, e1, kq.val (hm ▸ h) e2⟩
theorem own_lst {s : Wd K} {p : Addr} {as : List AV} (e : s.m p = some (.lst as)) : ∃ xs, s.H p = some (.lst xs) ∧ Paired (Av K s.G) xs as := (s.own p _ e).2
theorem o_ix_own {p : Addr} {as : List AV} {i : Int} {a : AV} (hp : m p = some (.lst as)) (e : atI as i = some a) (h : P a m) : O2 K (rIx K) (.ptr p) (.dat (.int i)) m P := by
  refine ⟨fun s vx vy Q hm hx hy kq => ?_⟩
  subst hm
  obtain ⟨xs, h1, h2⟩ := own_lst hp
  have ex : vx = .ref p := hx
  subst ex
  have hl := Paired.length h2
  have e' := e
  unfold L2.atI at e'
  cases hn : ixN as.length i with
  | none => rw [hn] at e'; cases e'
  | some j =>
    rw [hn] at e'
    obtain ⟨v, e1, e2⟩ := Paired.get j a h2 e'
    rw [av_int hy]
    exact .inl ⟨p, xs, i, v, rfl, rfl, SqL.of h1, by unfold L2.atI; rw [hl, hn]; exact e1, kq a v s h (Same.refl _) e2⟩
theorem o_ix_str {z : Str} {i : Int} {c : Nat} (hl : z.length ≤ 1000000) (e : atI z.cps.toList i = some c) (h : P (.dat (.str ⟨#[c]⟩)) m) : O2 K (rIx K) (.dat (.str z)) (.dat (.int i)) m P := by
  refine ⟨fun s vx vy Q hm hx hy kq => ?_⟩
  rw [av_str hx, av_int hy]
  exact .inr (.inr ⟨z, i, c, rfl, rfl, Nat.le_trans hl (by decide), e, kq.val (hm ▸ h) (Rp.str _)⟩)
theorem atI_getD {α : Type} {l : List α} {i : Int} {x : α} (h0 : 0 ≤ i) (h1 : i < l.length) : atI l i = some (l.getD i.toNat x) := by
  have e : i = ((i.toNat : Nat) : Int) := by omega
  have h2 : i.toNat < l.length := by omega
  have := atI_nat (xs := l) (j := i.toNat) (v := l.getD i.toNat x) (by rw [List.getD_eq_getElem?_getD, List.getElem?_eq_getElem h2] <;> rfl)
  rw [← e] at this
  exact this
theorem o_ix_str' {z : Str} {i : Int} (hl : z.length ≤ 1000000) (h0 : 0 ≤ i ∧ i < z.length) (h : P (.dat (.str ⟨#[z.cps.toList.getD i.toNat 0]⟩)) m) : O2 K (rIx K) (.dat (.str z)) (.dat (.int i)) m P :=
  o_ix_str hl (atI_getD h0.1 (by have : z.cps.toList.length = z.length := Array.length_toList; omega)) h
theorem o_ix_lst' {ds : List PyData} {i : Int} (h0 : 0 ≤ i ∧ i < ds.length) (h : P (.dat (ds.getD i.toNat .none)) m) : O2 K (rIx K) (.dat (.list ds)) (.dat (.int i)) m P := o_ix_lst (atI_getD h0.1 h0.2) h
theorem o_ix_tup' {ds : List PyData} {i : Int} (h0 : 0 ≤ i ∧ i < ds.length) (h : P (.dat (ds.getD i.toNat .none)) m) : O2 K (rIx K) (.dat (.tuple ds)) (.dat (.int i)) m P := o_ix_tup (atI_getD h0.1 h0.2) h
theorem o_ix_fz' {ds : List PyData} {i : Int} (h0 : 0 ≤ i ∧ i < ds.length) (h : P (.dat (ds.getD i.toNat .none)) m) : O2 K (rIx K) (.fz ds) (.dat (.int i)) m P := o_ix_fz (atI_getD h0.1 h0.2) h
end
/-! ## slices -/
def wO (X : Cx) (e : Option Expr) : TO := fun σ H Q => ∃ t, PO X e t ∧ t σ H Q
theorem wO.po {X : Cx} {e : Option Expr} : PO X e (wO X e) := ⟨fun pins s σ H Q I h => by
  obtain ⟨t, h1, h2⟩ := h
  exact h1.run pins s σ H Q I h2⟩
def KO (K : PySem.W.Frag) (s : Wd K) (P : Option Int → Mu → Prop) (Q : Option Int → Hp → Prop) : Prop := ∀ (b : Option Int) (t : Wd K), P b t.m → Same s.G t.G → Q b t.H
structure Eo (X : Cx) (Ω : Om) (e : Option Expr) (δ : Dl) (m : Mu) (P : Option Int → Mu → Prop) : Prop where
  run : ∀ (s : Wd X.K) (σ : L2.St) (Q : Option Int → Hp → Prop), s.m = m → Sk X Ω s.G σ δ → KO X.K s P Q → wO X e σ s.H Q
instance {X : Cx} {Ω : Om} {e : Option Expr} {δ : Dl} {m : Mu} {P : Option Int → Mu → Prop} : CoeFun (Eo X Ω e δ m P) (fun _ => ∀ (s : Wd X.K) (σ : L2.St) (Q : Option Int → Hp → Prop), s.m = m → Sk X Ω s.G σ δ → KO X.K s P Q → wO X e σ s.H Q) := ⟨Eo.run⟩
def cutL {α : Type} (xs : List α) (lo hi : Option Int) : List α := (xs.drop (HT.sIx xs.length 0 lo)).take (HT.sIx xs.length xs.length hi - HT.sIx xs.length 0 lo)
def rSlA (K : PySem.W.Frag) : V → Option Int → Option Int → Hp → VK → Prop := fun x l u H Q => rSlL K x l u H Q ∨ rSlT K x l u H Q ∨ rSlS x l u H Q
theorem sl_any {X : Cx} : SlR X (rSlA X.K) := SlR.or sl_list (SlR.or sl_tup sl_str)
structure OS (K : PySem.W.Frag) (x : AV) (l u : Option Int) (m : Mu) (P : AV → Mu → Prop) : Prop where
  run : ∀ (s : Wd K) (vx : V) (Q : VK), s.m = m → Av K s.G vx x → K1 K s P Q → rSlA K vx l u s.H Q
instance {K : PySem.W.Frag} {x : AV} {l u : Option Int} {m : Mu} {P : AV → Mu → Prop} : CoeFun (OS K x l u m P) (fun _ => ∀ (s : Wd K) (vx : V) (Q : VK), s.m = m → Av K s.G vx x → K1 K s P Q → rSlA K vx l u s.H Q) := ⟨OS.run⟩
section
variable {X : Cx} {Ω : Om} {δ : Dl} {m : Mu} {pos p2 : Pos} {a b c e : Expr} {es : List Expr}
theorem p_none {P : Option Int → Mu → Prop} (h : P none m) : Eo X Ω none δ m P := ⟨fun s σ Q hm hs kq => ⟨_, po_none, kq none s (hm ▸ h) (Same.refl _)⟩⟩
theorem p_some {P : Option Int → Mu → Prop} (h : Ee X Ω e δ m fun a m1 => ∃ i, a = .dat (.int i) ∧ P (some i) m1) : Eo X Ω (some e) δ m P := ⟨fun s σ Q hm hs kq =>
  ⟨_, po_some wE.pe, h s σ _ hm hs fun a v t ⟨i, ea, p⟩ g r => ⟨i, av_int (ea ▸ r), kq _ t p g⟩⟩⟩
variable {P : AV → Mu → Prop}
theorem e_slice {lo hi : Option Expr} (h : Ee X Ω e δ m fun x m1 => Eo X Ω lo δ m1 fun l m2 => Eo X Ω hi δ m2 fun u m3 => OS X.K x l u m3 P) : Ee X Ω (.Subscript e (.Slice lo hi none p2) pos) δ m P :=
  Ee.of (pe_slice sl_any wE.pe wO.po wO.po) fun s σ Q hm hs kq => h s σ _ hm hs fun x vx s1 p1 g1 r1 => p1 s1 σ _ rfl (hs.mono g1) fun l s2 p2 g2 => p2 s2 σ _ rfl (hs.mono (g1.trans g2)) fun u s3 p3 g3 =>
    p3 s3 vx Q rfl (r1.mono (g2.trans g3)) (kq.back ((g1.trans g2).trans g3))
end
section
variable {K : PySem.W.Frag} {m : Mu} {P : AV → Mu → Prop}
theorem cut_rp {G : Hp} {vs : List V} {ds : List PyData} {l u : Option Int} (h : RpA K G vs ds) : RpA K G (cutV vs l u) (cutL ds l u) := by
  unfold cutV cutL
  rw [RpA.length _ _ h]
  exact RpA.take _ (RpA.drop _ h)
theorem sl_str' {z : Str} {l u : Option Int} (hl : z.length ≤ 1000000) (h : P (.dat (.str (cutS z l u))) m) : OS K (.dat (.str z)) l u m P := by
  refine ⟨fun s vx Q hm hx kq => ?_⟩
  rw [av_str hx]
  exact .inr (.inr ⟨z, rfl, Nat.le_trans hl (by decide), kq.val (hm ▸ h) (Rp.str _)⟩)
theorem sl_lst' {ds : List PyData} {l u : Option Int} (h : P (.dat (.list (cutL ds l u))) m) : OS K (.dat (.list ds)) l u m P := by
  refine ⟨fun s vx Q hm hx kq => ?_⟩
  obtain ⟨a, xs, rfl, h1, h2⟩ := av_lst hx
  exact .inl ⟨a, xs, rfl, sqL_up (SqL.of h1), fun p hp => kq.new hp (hm ▸ h) fun G g e => .lst e (cut_rp (RpA.mono g _ _ h2))⟩
theorem sl_fz' {ds : List PyData} {l u : Option Int} (h : P (.dat (.list (cutL ds l u))) m) : OS K (.fz ds) l u m P := by
  refine ⟨fun s vx Q hm hx kq => ?_⟩
  obtain ⟨a, xs, rfl, h1, h2⟩ := hx
  exact .inl ⟨a, xs, rfl, sqL_up h1, fun p hp => kq.new hp (hm ▸ h) fun G g e => .lst e (cut_rp (RpA.mono g _ _ h2))⟩
theorem sl_tup' {ds : List PyData} {l u : Option Int} (hw : ¬ (HT.sIx ds.length 0 l = 0 ∧ HT.sIx ds.length ds.length u = ds.length)) (h : P (.dat (.tuple (cutL ds l u))) m) : OS K (.dat (.tuple ds)) l u m P := by
  refine ⟨fun s vx Q hm hx kq => ?_⟩
  obtain ⟨a, xs, rfl, h1, h2⟩ := av_tup hx
  exact .inr (.inl ⟨a, xs, rfl, sqT_up h1, by rw [RpA.length _ _ h2]; exact hw, fun p hp => kq.new hp (hm ▸ h) fun G g e => .tup (.inl (.inl e)) (cut_rp (RpA.mono g _ _ h2))⟩)
/-- own list as it stands, by its data -/
theorem sl_own' {p : Addr} {as : List AV} {ds : List PyData} {l u : Option Int} (hp : m p = some (.lst as)) (ed : datas as = some ds) (h : P (.dat (.list (cutL ds l u))) m) : OS K (.ptr p) l u m P := by
  refine ⟨fun s vx Q hm hx kq => ?_⟩
  subst hm
  obtain ⟨xs, h1, h2⟩ := own_lst hp
  have ex : vx = .ref p := hx
  subst ex
  exact .inl ⟨p, xs, rfl, SqL.of h1, fun p hp => kq.new hp h fun G g e => .lst e (cut_rp (RpA.mono g _ _ (datas_rp ed h2)))⟩
end
/-! ## calls of built-ins -/
section
variable {X : Cx} {Ω : Om} {δ : Dl} {m : Mu} {P : AV → Mu → Prop} {pos p p2 apos : Pos} {a b c e o : Expr} {es : List Expr}
theorem e_callB {x : Str} {id : String} {r : List V → Hp → VK → Prop} (hc : CallR X (.builtin id) r) (hm' : X.mg x = none) (h : Ea X Ω (e :: es) δ m fun as m1 => OA X.K r as m1 P) (hv : bootBuiltins x = some (.builtin id) := by decide +kernel) (hg : Gl X x := by rfl)
    (hn : x ≠ "__name__" := by decide) (hdb : (x == ("__debug__" : Str)) = false := by decide)
    (he : starEach (e :: es) X.env = (false, eval e X.env) :: starEach es X.env := by rfl) (hpl : (backTo pos (starEach es X.env)).any (·.1) = false := by rfl) : Ee X Ω (.Call (.Name x p) (e :: es) [] pos) δ m P :=
  Ee.of (pe_callB hc hg hm' hv wA.pa hn hdb he hpl) fun s σ Q hm hs kq => h s σ _ hm hs fun as vs t p1 g1 r1 => p1 t vs Q rfl r1 (kq.back g1)
theorem e_callTy {x : Str} {T : String} {r : List V → Hp → VK → Prop} (hc : CallR X (.type T) r) (hm' : X.mg x = none) (h : Ea X Ω (e :: es) δ m fun as m1 => OA X.K r as m1 P) (hv : bootBuiltins x = some (.type T) := by decide +kernel) (hg : Gl X x := by rfl)
    (hn : x ≠ "__name__" := by decide) (hdb : (x == ("__debug__" : Str)) = false := by decide)
    (he : starEach (e :: es) X.env = (false, eval e X.env) :: starEach es X.env := by rfl) (hpl : (backTo pos (starEach es X.env)).any (·.1) = false := by rfl) : Ee X Ω (.Call (.Name x p) (e :: es) [] pos) δ m P :=
  Ee.of (pe_callTy hc hg hm' hv wA.pa hn hdb he hpl) fun s σ Q hm hs kq => h s σ _ hm hs fun as vs t p1 g1 r1 => p1 t vs Q rfl r1 (kq.back g1)
end
section
variable {X : Cx} {m : Mu} {P : AV → Mu → Prop} {K : PySem.W.Frag}
/-! len -/
def rLen (K : PySem.W.Frag) : List V → Hp → VK → Prop := fun xs H Q => ∃ x n, xs = [x] ∧ LenV K x H n ∧ Q (.int n) H
theorem o_len_lst {ds : List PyData} (h : P (.dat (.int ds.length)) m) : OA K (rLen K) [.dat (.list ds)] m P := by
  refine ⟨fun s vs Q hm hx kq => ?_⟩
  obtain ⟨v, rfl, hv⟩ := Paired.one hx
  obtain ⟨a, xs, rfl, h1, h2⟩ := av_lst hv
  refine ⟨_, xs.length, rfl, .inl ⟨_, sqL_up (SqL.of h1), rfl⟩, ?_⟩
  rw [RpA.length _ _ h2]
  exact kq.val (hm ▸ h) (Rp.int _)
theorem o_len_fz {ds : List PyData} (h : P (.dat (.int ds.length)) m) : OA K (rLen K) [.fz ds] m P := by
  refine ⟨fun s vs Q hm hx kq => ?_⟩
  obtain ⟨v, rfl, hv⟩ := Paired.one hx
  obtain ⟨a, xs, rfl, h1, h2⟩ := hv
  refine ⟨_, xs.length, rfl, .inl ⟨_, sqL_up h1, rfl⟩, ?_⟩
  rw [RpA.length _ _ h2]
  exact kq.val (hm ▸ h) (Rp.int _)
theorem o_len_tup {ds : List PyData} (h : P (.dat (.int ds.length)) m) : OA K (rLen K) [.dat (.tuple ds)] m P := by
  refine ⟨fun s vs Q hm hx kq => ?_⟩
  obtain ⟨v, rfl, hv⟩ := Paired.one hx
  obtain ⟨a, xs, rfl, h1, h2⟩ := av_tup hv
  refine ⟨_, xs.length, rfl, .inr ⟨_, sqT_up h1, rfl⟩, ?_⟩
  rw [RpA.length _ _ h2]
  exact kq.val (hm ▸ h) (Rp.int _)
theorem o_len_str {z : Str} (hl : z.length ≤ 1000000) (h : P (.dat (.int z.length)) m) : OA K (rLen K) [.dat (.str z)] m P := by
  refine ⟨fun s vs Q hm hx kq => ?_⟩
  obtain ⟨v, rfl, hv⟩ := Paired.one hx
  rw [av_str hv]
  exact ⟨_, z.length, rfl, ⟨Nat.le_trans hl (by decide), rfl⟩, kq.val (hm ▸ h) (Rp.int _)⟩
theorem o_len_own {p : Addr} {as : List AV} (hp : m p = some (.lst as)) (h : P (.dat (.int as.length)) m) : OA K (rLen K) [.ptr p] m P := by
  refine ⟨fun s vs Q hm hx kq => ?_⟩
  subst hm
  obtain ⟨v, rfl, hv⟩ := Paired.one hx
  obtain ⟨xs, h1, h2⟩ := own_lst hp
  have ex : v = .ref p := hv
  subst ex
  refine ⟨_, xs.length, rfl, .inl ⟨_, SqL.of h1, rfl⟩, ?_⟩
  rw [Paired.length h2]
  exact kq.val h (Rp.int _)
/-! abs, int, str -/
def rAbs : List V → Hp → VK → Prop := fun xs H Q => ∃ i, xs = [.int i] ∧ Q (.int (if i < 0 then -i else i)) H
theorem o_abs {i : Int} (h : P (.dat (.int (if i < 0 then -i else i))) m) : OA K rAbs [.dat (.int i)] m P := by
  refine ⟨fun s vs Q hm hx kq => ?_⟩
  obtain ⟨v, rfl, hv⟩ := Paired.one hx
  rw [av_int hv]
  exact ⟨i, rfl, kq.val (hm ▸ h) (Rp.int _)⟩
def rMax2 : List V → Hp → VK → Prop := fun xs H Q => ∃ i j, xs = [.int i, .int j] ∧ Q (.int (if j > i then j else i)) H
def rMin2 : List V → Hp → VK → Prop := fun xs H Q => ∃ i j, xs = [.int i, .int j] ∧ Q (.int (if j < i then j else i)) H
theorem o_max2 {i j : Int} (h : P (.dat (.int (if j > i then j else i))) m) : OA K rMax2 [.dat (.int i), .dat (.int j)] m P := by
  refine ⟨fun s vs Q hm hx kq => ?_⟩
  obtain ⟨v, w, rfl, hv, hw⟩ := Paired.two hx
  rw [av_int hv, av_int hw]
  exact ⟨i, j, rfl, kq.val (hm ▸ h) (Rp.int _)⟩
theorem o_min2 {i j : Int} (h : P (.dat (.int (if j < i then j else i))) m) : OA K rMin2 [.dat (.int i), .dat (.int j)] m P := by
  refine ⟨fun s vs Q hm hx kq => ?_⟩
  obtain ⟨v, w, rfl, hv, hw⟩ := Paired.two hx
  rw [av_int hv, av_int hw]
  exact ⟨i, j, rfl, kq.val (hm ▸ h) (Rp.int _)⟩
def rInt : List V → Hp → VK → Prop := fun xs H Q => ((∃ i, xs = [.int i] ∧ Q (.int i) H) ∨ ∃ k, xs = [.bl k] ∧ Q (.int (if k then 1 else 0)) H) ∨ ∃ a n, xs = [.str a] ∧ PySem.intText? a = some n ∧ a.length ≤ 640 ∧ Q (.int n) H
theorem call_intA : CallR X (.type "int") rInt := CallR.or call_int1 call_int_str
theorem o_int_bl {k : Bool} (h : P (.dat (.int (if k then 1 else 0))) m) : OA K rInt [.dat (.bool k)] m P := by
  refine ⟨fun s vs Q hm hx kq => ?_⟩
  obtain ⟨v, rfl, hv⟩ := Paired.one hx
  rw [av_bl hv]
  exact .inl (.inr ⟨k, rfl, kq.val (hm ▸ h) (Rp.int _)⟩)
theorem o_int_str {z : Str} {n : Int} (e : PySem.intText? z = some n) (hl : z.length ≤ 640) (h : P (.dat (.int n)) m) : OA K rInt [.dat (.str z)] m P := by
  refine ⟨fun s vs Q hm hx kq => ?_⟩
  obtain ⟨v, rfl, hv⟩ := Paired.one hx
  rw [av_str hv]
  exact .inr ⟨z, n, rfl, e, hl, kq.val (hm ▸ h) (Rp.int _)⟩
def rStrI : List V → Hp → VK → Prop := fun xs H Q => ∃ i, xs = [.int i] ∧ i.natAbs.log2 < 1920 ∧ Q (.str (toString i)) H
theorem o_str {i : Int} (hl : i.natAbs.log2 < 1920) (h : P (.dat (.str (toString i))) m) : OA K rStrI [.dat (.int i)] m P := by
  refine ⟨fun s vs Q hm hx kq => ?_⟩
  obtain ⟨v, rfl, hv⟩ := Paired.one hx
  rw [av_int hv]
  exact ⟨i, rfl, hl, kq.val (hm ▸ h) (Rp.str _)⟩
/-! isinstance -/
def tyD : PyData → String
  | .none => "NoneType" | .bool _ => "bool" | .int _ => "int" | .str _ => "str" | .list _ => "list" | .tuple _ => "tuple" | .dict _ => "dict"
theorem tyX_of {s : Wd K} : ∀ {d : PyData} {v : V}, Rp K s.G v d → TyX K s.H v (.type (tyD d))
  | .none, _, h => by cases h; exact .base .non
  | .bool b, _, h => by cases h; exact .base (.bl b)
  | .int i, _, h => by cases h; exact .base (.int i)
  | .str x, _, h => by cases h; exact .base (.str x)
  | .list ds, _, h => by
    cases h with
    | lst h1 h2 => exact .base (.lst (s.ext _ _ h1))
  | .tuple ds, _, h => by
    cases h with
    | tup h1 h2 =>
      rcases h1 with (h1 | ⟨o, h1⟩) | ⟨o, its, n, e, c, _⟩
      · exact .base (.tup (s.ext _ _ h1))
      · exact .fTuple (s.ext _ _ h1)
      · exact .kTuple e c
  | .dict _, _, h => by cases h
theorem o_isi {d : PyData} {n : String} {b : Bool} (e : kitB (tyD d) n = some b) (h : P (.dat (.bool b)) m) : OA K (rIsi K) [.dat d, .ty n] m P := by
  refine ⟨fun s vs Q hm hx kq => ?_⟩
  obtain ⟨v, w, rfl, hv, hw⟩ := Paired.two hx
  have ew : w = .ty n := hw
  subst ew
  exact ⟨v, .ty n, .type (tyD d), .type n, b, rfl, .ty n, tyX_of hv, kit_ty e, kq.val (hm ▸ h) (Rp.bl _)⟩
def d_int : PyData → Bool
  | .int _ => true
  | .bool _ => true
  | _ => false
theorem o_isi_int {d : PyData} (h : P (.dat (.bool (d_int d))) m) : OA K (rIsi K) [.dat d, .ty "int"] m P := o_isi (by cases d <;> (show kitB _ _ = some _; dsimp only [tyD, d_int]; decide +kernel)) h
def d_bool : PyData → Bool
  | .bool _ => true
  | _ => false
theorem o_isi_bool {d : PyData} (h : P (.dat (.bool (d_bool d))) m) : OA K (rIsi K) [.dat d, .ty "bool"] m P := o_isi (by cases d <;> (show kitB _ _ = some _; dsimp only [tyD, d_bool]; decide +kernel)) h
def d_str : PyData → Bool
  | .str _ => true
  | _ => false
theorem o_isi_str {d : PyData} (h : P (.dat (.bool (d_str d))) m) : OA K (rIsi K) [.dat d, .ty "str"] m P := o_isi (by cases d <;> (show kitB _ _ = some _; dsimp only [tyD, d_str]; decide +kernel)) h
def d_tuple : PyData → Bool
  | .tuple _ => true
  | _ => false
theorem o_isi_tuple {d : PyData} (h : P (.dat (.bool (d_tuple d))) m) : OA K (rIsi K) [.dat d, .ty "tuple"] m P := o_isi (by cases d <;> (show kitB _ _ = some _; dsimp only [tyD, d_tuple]; decide +kernel)) h
def d_list : PyData → Bool
  | .list _ => true
  | _ => false
theorem o_isi_list {d : PyData} (h : P (.dat (.bool (d_list d))) m) : OA K (rIsi K) [.dat d, .ty "list"] m P := o_isi (by cases d <;> (show kitB _ _ = some _; dsimp only [tyD, d_list]; decide +kernel)) h
def d_dict : PyData → Bool
  | .dict _ => true
  | _ => false
theorem o_isi_dict {d : PyData} (h : P (.dat (.bool (d_dict d))) m) : OA K (rIsi K) [.dat d, .ty "dict"] m P := o_isi (by cases d <;> (show kitB _ _ = some _; dsimp only [tyD, d_dict]; decide +kernel)) h
end
section
variable {X : Cx} {Ω : Om} {δ : Dl} {m : Mu} {P : AV → Mu → Prop} {pos p p2 p3 apos : Pos} {a b c e o : Expr} {es : List Expr}
theorem e_len (hm' : X.mg "len" = none) (h : Ee X Ω a δ m fun x m1 => OA X.K (rLen X.K) [x] m1 P) (hg : Gl X "len" := by rfl) (he : starEach [a] X.env = (false, eval a X.env) :: starEach [] X.env := by rfl) (hpl : (backTo pos (starEach [] X.env)).any (·.1) = false := by rfl) :
    Ee X Ω (.Call (.Name "len" p) [a] [] pos) δ m P := e_callB call_len hm' (a_cons ⟨fun s σ Q hm hs kq => h s σ Q hm hs fun x v t p1 g r => kq x v t (a_nil p1) g r⟩ he) (by decide +kernel) hg (by decide) (by decide) he hpl
theorem e_abs (hm' : X.mg "abs" = none) (h : Ee X Ω a δ m fun x m1 => OA X.K rAbs [x] m1 P) (hg : Gl X "abs" := by rfl) (he : starEach [a] X.env = (false, eval a X.env) :: starEach [] X.env := by rfl) (hpl : (backTo pos (starEach [] X.env)).any (·.1) = false := by rfl) :
    Ee X Ω (.Call (.Name "abs" p) [a] [] pos) δ m P := e_callB call_abs hm' (a_cons ⟨fun s σ Q hm hs kq => h s σ Q hm hs fun x v t p1 g r => kq x v t (a_nil p1) g r⟩ he) (by decide +kernel) hg (by decide) (by decide) he hpl
theorem e_intc (hm' : X.mg "int" = none) (h : Ee X Ω a δ m fun x m1 => OA X.K rInt [x] m1 P) (hg : Gl X "int" := by rfl) (he : starEach [a] X.env = (false, eval a X.env) :: starEach [] X.env := by rfl) (hpl : (backTo pos (starEach [] X.env)).any (·.1) = false := by rfl) :
    Ee X Ω (.Call (.Name "int" p) [a] [] pos) δ m P := e_callTy call_intA hm' (a_cons ⟨fun s σ Q hm hs kq => h s σ Q hm hs fun x v t p1 g r => kq x v t (a_nil p1) g r⟩ he) (by decide +kernel) hg (by decide) (by decide) he hpl
theorem e_strc (hm' : X.mg "str" = none) (h : Ee X Ω a δ m fun x m1 => OA X.K rStrI [x] m1 P) (hg : Gl X "str" := by rfl) (he : starEach [a] X.env = (false, eval a X.env) :: starEach [] X.env := by rfl) (hpl : (backTo pos (starEach [] X.env)).any (·.1) = false := by rfl) :
    Ee X Ω (.Call (.Name "str" p) [a] [] pos) δ m P := e_callTy call_str_int hm' (a_cons ⟨fun s σ Q hm hs kq => h s σ Q hm hs fun x v t p1 g r => kq x v t (a_nil p1) g r⟩ he) (by decide +kernel) hg (by decide) (by decide) he hpl
theorem e_max (hm' : X.mg "max" = none) (hc : X.calm = true) (h : Ee X Ω a δ m fun x m1 => Ee X Ω b δ m1 fun y m2 => OA X.K rMax2 [x, y] m2 P) (hg : Gl X "max" := by rfl) (he : starEach [a, b] X.env = (false, eval a X.env) :: starEach [b] X.env := by rfl) (he2 : starEach [b] X.env = (false, eval b X.env) :: starEach [] X.env := by rfl) (hpl : (backTo pos (starEach [b] X.env)).any (·.1) = false := by rfl) :
    Ee X Ω (.Call (.Name "max" p) [a, b] [] pos) δ m P := e_callB (call_max2 hc) hm' (a_cons ⟨fun s σ Q hm hs kq => h s σ Q hm hs fun x v t p1 g r => kq x v t (a_cons ⟨fun s σ Q hm hs kq => p1 s σ Q hm hs fun y v t p2 g r => kq y v t (a_nil p2) g r⟩ he2) g r⟩ he) (by decide +kernel) hg (by decide) (by decide) he hpl
theorem e_min (hm' : X.mg "min" = none) (hc : X.calm = true) (h : Ee X Ω a δ m fun x m1 => Ee X Ω b δ m1 fun y m2 => OA X.K rMin2 [x, y] m2 P) (hg : Gl X "min" := by rfl) (he : starEach [a, b] X.env = (false, eval a X.env) :: starEach [b] X.env := by rfl) (he2 : starEach [b] X.env = (false, eval b X.env) :: starEach [] X.env := by rfl) (hpl : (backTo pos (starEach [b] X.env)).any (·.1) = false := by rfl) :
    Ee X Ω (.Call (.Name "min" p) [a, b] [] pos) δ m P := e_callB (call_min2 hc) hm' (a_cons ⟨fun s σ Q hm hs kq => h s σ Q hm hs fun x v t p1 g r => kq x v t (a_cons ⟨fun s σ Q hm hs kq => p1 s σ Q hm hs fun y v t p2 g r => kq y v t (a_nil p2) g r⟩ he2) g r⟩ he) (by decide +kernel) hg (by decide) (by decide) he hpl
theorem e_isi {T : Str} {n : String} (hm' : X.mg "isinstance" = none) (hT : X.mg T = none) (h : Ee X Ω a δ m fun x m1 => OA X.K (rIsi X.K) [x, .ty n] m1 P) (hv : bootBuiltins T = some (.type n) := by decide +kernel) (hg : Gl X "isinstance" := by rfl) (hgT : Gl X T := by rfl) (hnT : T ≠ "__name__" := by decide) (hdT : (T == ("__debug__" : Str)) = false := by decide)
    (he : starEach [a, .Name T p2] X.env = (false, eval a X.env) :: starEach [.Name T p2] X.env := by rfl) (he2 : starEach [.Name T p2] X.env = (false, eval (.Name T p2) X.env) :: starEach [] X.env := by rfl) (hpl : (backTo pos (starEach [.Name T p2] X.env)).any (·.1) = false := by rfl) :
    Ee X Ω (.Call (.Name "isinstance" p) [a, .Name T p2] [] pos) δ m P :=
  e_callB call_isi hm' (a_cons ⟨fun s σ Q hm hs kq => h s σ Q hm hs fun x v t p1 g r => kq x v t (a_cons (e_ty hT (a_nil p1) hv hgT hnT hdT) he2) g r⟩ he) (by decide +kernel) hg (by decide) (by decide) he hpl
/-! methods of texts -/
structure OPart (z : Str) (y : AV) (m : Mu) (P : AV → Mu → Prop) : Prop where
  ex : ∃ w, y = .dat (.str w) ∧ (w.length == 0) = false ∧ z.length ≤ 1000000 ∧ P (.dat (.tuple [.str (Txt.partition z w).1, .str (Txt.partition z w).2.1, .str (Txt.partition z w).2.2])) m
theorem o_part {z w : Str} (h1 : (w.length == 0) = false) (h2 : z.length ≤ 1000000) (h : P (.dat (.tuple [.str (Txt.partition z w).1, .str (Txt.partition z w).2.1, .str (Txt.partition z w).2.2])) m) : OPart z (.dat (.str w)) m P := ⟨w, rfl, h1, h2, h⟩
structure OSplit (z : Str) (y : AV) (m : Mu) (P : AV → Mu → Prop) : Prop where
  ex : ∃ w, y = .dat (.str w) ∧ (w.length == 0) = false ∧ z.length ≤ 1000000 ∧ P (.dat (.list ((Txt.split z w).map .str))) m
theorem o_split {z w : Str} (h1 : (w.length == 0) = false) (h2 : z.length ≤ 1000000) (h : P (.dat (.list ((Txt.split z w).map .str))) m) : OSplit z (.dat (.str w)) m P := ⟨w, rfl, h1, h2, h⟩
structure OJoin (z : Str) (y : AV) (m : Mu) (P : AV → Mu → Prop) : Prop where
  ex : ∃ ys : List Str, y = .dat (.list (ys.map .str)) ∧ (ys.map (·.length)).sum + ys.length * z.length ≤ 16777216 ∧ P (.dat (.str (Txt.join z ys))) m
theorem o_join {z : Str} {ys : List Str} (h1 : (ys.map (·.length)).sum + ys.length * z.length ≤ 16777216) (h : P (.dat (.str (Txt.join z ys))) m) : OJoin z (.dat (.list (ys.map .str))) m P := ⟨ys, rfl, h1, h⟩
structure OApp (p : Addr) (y : AV) (m : Mu) (P : AV → Mu → Prop) : Prop where
  ex : ∃ as, m p = some (.lst as) ∧ as.length < 1000000 ∧ P (.dat .none) (m.up p (.lst (as ++ [y])))
theorem o_app {p : Addr} {y : AV} {as : List AV} (h1 : m p = some (.lst as)) (h2 : as.length < 1000000) (h : P (.dat .none) (m.up p (.lst (as ++ [y])))) : OApp p y m P := ⟨as, h1, h2, h⟩
structure OJ (X : Cx) (Ω : Om) (E : List Expr → Str → Mu → Prop) (x : AV) (acc : Str) (es : List Expr) (m : Mu) : Prop where
  ex : ∃ y, x = .dat (.str y) ∧ (acc ++ y).length ≤ 1000000 ∧ E es (acc ++ y) m
theorem e_part (h : Ee X Ω o δ m fun x m1 => ∃ z, x = .dat (.str z) ∧ Ee X Ω e δ m1 fun y m2 => OPart z y m2 P)
    (hs' : starEach [e] X.env = [(false, eval e X.env)] := by rfl) (hbase : attributeBase o "partition" X.env (eval o X.env) = eval o X.env := by rfl) (hline : (apos.endLine == pos.line) = true := by rfl) : Ee X Ω (.Call (.Attribute o "partition" apos) [e] [] pos) δ m P :=
  Ee.of (pe_partition wE.pe wE.pe hs' hbase hline) fun s σ Q hm hs kq => h s σ _ hm hs fun x vx s1 ⟨z, ex, p1⟩ g1 r1 => ⟨⟨z, av_str (ex ▸ r1)⟩, p1 s1 σ _ rfl (hs.mono g1) fun y vy s2 ⟨⟨w, ey, hw, hz, p2⟩⟩ g2 r2 =>
    ⟨z, w, av_str (ex ▸ r1), congrArg (fun v => [v]) (av_str (ey ▸ r2)), hw, Nat.le_trans hz (by decide), fun p hp => (kq.back (g1.trans g2)).new hp p2 fun G g e => .tup (.inl (.inl e)) (.cons (.str _) (.cons (.str _) (.cons (.str _) .nil)))⟩⟩
theorem e_split (h : Ee X Ω o δ m fun x m1 => ∃ z, x = .dat (.str z) ∧ Ee X Ω e δ m1 fun y m2 => OSplit z y m2 P)
    (hs' : starEach [e] X.env = [(false, eval e X.env)] := by rfl) (hbase : attributeBase o "split" X.env (eval o X.env) = eval o X.env := by rfl) (hline : (apos.endLine == pos.line) = true := by rfl) : Ee X Ω (.Call (.Attribute o "split" apos) [e] [] pos) δ m P :=
  Ee.of (pe_split wE.pe wE.pe hs' hbase hline) fun s σ Q hm hs kq => h s σ _ hm hs fun x vx s1 ⟨z, ex, p1⟩ g1 r1 => ⟨⟨z, av_str (ex ▸ r1)⟩, p1 s1 σ _ rfl (hs.mono g1) fun y vy s2 ⟨⟨w, ey, hw, hz, p2⟩⟩ g2 r2 =>
    ⟨z, w, av_str (ex ▸ r1), congrArg (fun v => [v]) (av_str (ey ▸ r2)), hw, Nat.le_trans (Nat.add_le_add_right hz 2) (by decide), fun p hp => (kq.back (g1.trans g2)).new hp p2 fun G g e => .lst e (RpA.strs _)⟩⟩
theorem e_join (h : Ee X Ω o δ m fun x m1 => ∃ z, x = .dat (.str z) ∧ Ee X Ω e δ m1 fun y m2 => OJoin z y m2 P)
    (hs' : starEach [e] X.env = [(false, eval e X.env)] := by rfl) (hbase : attributeBase o "join" X.env (eval o X.env) = eval o X.env := by rfl) (hline : (apos.endLine == pos.line) = true := by rfl) : Ee X Ω (.Call (.Attribute o "join" apos) [e] [] pos) δ m P :=
  Ee.of (pe_join wE.pe wE.pe hs' hbase hline) fun s σ Q hm hs kq => h s σ _ hm hs fun x vx s1 ⟨z, ex, p1⟩ g1 r1 => ⟨⟨z, av_str (ex ▸ r1)⟩, p1 s1 σ _ rfl (hs.mono g1) fun y vy s2 ⟨⟨ys, ey, hz, p2⟩⟩ g2 r2 => by
    obtain ⟨a, xs, rfl, h1, h2⟩ := av_lst (ey ▸ r2)
    have hx := RpA.of_strs _ _ h2
    subst hx
    exact ⟨z, a, ys, av_str (ex ▸ r1), rfl, .inl (sqL_up (SqL.of h1)), hz, (kq.back (g1.trans g2)).val p2 (Rp.str _)⟩⟩
/-! append to an own list -/
theorem e_append (h : Ee X Ω o δ m fun x m1 => ∃ p, x = .ptr p ∧ (∃ as, m1 p = some (.lst as)) ∧ Ee X Ω e δ m1 fun y m2 => OApp p y m2 P)
    (hbase : attributeBase o "append" X.env (eval o X.env) = eval o X.env := by rfl)
    (hfew : ((backTo pos (starEach [e] X.env)).all (fun x => !x.1) && (backToKw pos (keywordEach [] X.env)).all (fun x => x.1.isSome)
      && decide ([e].length + ([] : List Keyword).length + (if ([] : List Keyword).isEmpty then 0 else 1) < 30)) = true := by rfl)
    (hline : (apos.endLine == pos.line) = true := by rfl) (hst : starEach [e] X.env = (false, eval e X.env) :: starEach [] X.env := by rfl) (hplain : (backTo pos (starEach [] X.env)).any (·.1) = false := by rfl) :
    Ee X Ω (.Call (.Attribute o "append" apos) [e] [] pos) δ m P :=
  Ee.of (pe_bm PySem.F.plainAttrs_list PySem.F.slot_list_append PySem.F.type_list_append mt_append wE.pe (pa_cons wE.pe pa_nil hst) hbase hfew hline hst hplain) fun s σ Q hm hs kq =>
    h s σ _ hm hs fun x vx s1 ⟨p, ex, ⟨as, ha⟩, p1⟩ g1 r1 => by
      subst ex
      have er : vx = .ref p := r1
      subst er
      obtain ⟨xs, h1, h2⟩ := own_lst ha
      refine ⟨.inl ⟨rfl, xs, SqL.of h1⟩, p1 s1 σ _ rfl (hs.mono g1) fun y vy s2 ⟨⟨bs, hb, hl, p2⟩⟩ g2 r2 => ?_⟩
      obtain ⟨ys, h3, h4⟩ := own_lst hb
      refine ⟨p, ys, vy, rfl, rfl, h3, Nat.lt_of_lt_of_le (by rw [Paired.length h4]; exact hl) (by decide), ?_⟩
      have pa : ∀ {us : List V} {cs : List AV}, Paired (Av X.K s2.G) us cs → Paired (Av X.K s2.G) (us ++ [vy]) (cs ++ [y]) := fun {us cs} q => by
        induction q with
        | nil => exact .cons r2 .nil
        | cons q1 _ ih => exact .cons q1 ih
      exact kq (.dat .none) .non (s2.put p (.lst (ys ++ [vy])) (.lst (bs ++ [y])) (by rw [hb]; rfl) ⟨_, upd_same, pa h4⟩) p2 (g1.trans g2) Rp.non
/-! f-strings -/
def oFmt : AV → Option Str
  | .dat (.str y) => some y
  | .dat (.int i) => some (toString i)
  | _ => none
def fmtOk : AV → Prop
  | .dat (.str y) => y.length ≤ 1000000
  | .dat (.int i) => i.natAbs.log2 < 1920
  | _ => False
structure OF (x : AV) (m : Mu) (P : AV → Mu → Prop) : Prop where
  ok : fmtOk x
  val : ∃ y, oFmt x = some y ∧ P (.dat (.str y)) m
theorem o_fmt_int {i : Int} (hl : i.natAbs.log2 < 1920) (h : P (.dat (.str (toString i))) m) : OF (.dat (.int i)) m P := ⟨hl, _, rfl, h⟩
theorem o_fmt_str {i : Str} (hl : i.length ≤ 1000000) (h : P (.dat (.str i)) m) : OF (.dat (.str i)) m P := ⟨hl, _, rfl, h⟩
theorem e_fmt (h : Ee X Ω e δ m fun x m1 => OF x m1 P) : Ee X Ω (.FormattedValue e (-1) none pos) δ m P :=
  Ee.of (pe_fmt wE.pe) fun s σ Q hm hs kq => h s σ _ hm hs fun x vx s1 ⟨ok, ⟨y, ey, p1⟩⟩ g1 r1 => by
    unfold fmtOk at ok
    unfold oFmt at ey
    split at ok
    · cases ey
      exact .inl ⟨_, av_str r1, Nat.le_trans ok (by decide), (kq.back g1).val p1 (Rp.str _)⟩
    · cases ey
      exact .inr ⟨_, av_int r1, ok, (kq.back g1).val p1 (Rp.str _)⟩
    · exact ok.elim
/-- the parts of an f-string, behind what stands already -/
def Ej (X : Cx) (Ω : Om) : List Expr → Str → Dl → Mu → (AV → Mu → Prop) → Prop
  | [], acc, _, m, P => P (.dat (.str acc)) m
  | e :: es, acc, δ, m, P => Ee X Ω e δ m fun x m1 => ∃ y, x = .dat (.str y) ∧ (acc ++ y).length ≤ 1000000 ∧ Ej X Ω es (acc ++ y) δ m1 P
theorem j_nil {acc : Str} (h : P (.dat (.str acc)) m) : Ej X Ω [] acc δ m P := h
theorem o_j {acc y : Str} (h1 : (acc ++ y).length ≤ 1000000) (h : Ej X Ω es (acc ++ y) δ m P) : OJ X Ω (fun es a m => Ej X Ω es a δ m P) (.dat (.str y)) acc es m := ⟨y, rfl, h1, h⟩
theorem j_cons {acc : Str} (h : Ee X Ω e δ m fun x m1 => OJ X Ω (fun es a m => Ej X Ω es a δ m P) x acc es m1) : Ej X Ω (e :: es) acc δ m P := Ee.imp h fun _ _ ⟨q⟩ => q
theorem pj_all : ∀ (es : List Expr), PJ X es (es.map (wE X))
  | [] => .nil
  | e :: es => .cons wE.pe (pj_all es)
theorem ej_run : ∀ (es : List Expr) (acc : Str) (m : Mu) (s : Wd X.K) (σ : L2.St) (Q : VK), Ej X Ω es acc δ m P → s.m = m → Sk X Ω s.G σ δ → K1 X.K s P Q → tJs (es.map (wE X)) acc σ s.H fun out H1 => Q (.str out) H1
  | [], acc, m, s, σ, Q, h, hm, hs, kq => kq.val (hm ▸ (show P (.dat (.str acc)) m from h)) (Rp.str _)
  | e :: es, acc, m, s, σ, Q, h, hm, hs, kq => (show Ee X Ω e δ m _ from h) s σ _ hm hs fun x vx s1 ⟨y, ex, hl, p1⟩ g1 r1 => ⟨y, av_str (ex ▸ r1), Nat.le_trans hl (by decide), ej_run es (acc ++ y) s1.m s1 σ Q p1 rfl (hs.mono g1) (kq.back g1)⟩
theorem e_joined {v1 v2 : Expr} {rest : List Expr} (h : Ej X Ω (v1 :: v2 :: rest) Str.empty δ m P) : Ee X Ω (.JoinedStr (v1 :: v2 :: rest) pos) δ m P :=
  Ee.of (pe_joined (pj_all _)) fun s σ Q hm hs kq => ej_run _ _ m s σ Q h hm hs kq
end
end QQ
set_option maxHeartbeats 4000000
namespace QQ
open PySem PySem.Spec PyProof.Rows L2
/-! ## own objects let go, fixed -/
def MuLe (a b : Mu) : Prop := ∀ p c, a p = some c → b p = some c
theorem MuLe.refl (a : Mu) : MuLe a a := fun _ _ h => h
theorem MuLe.trans {a b c : Mu} (h : MuLe a b) (k : MuLe b c) : MuLe a c := fun p d e => k p d (h p d e)
theorem MuLe.up {a b : Mu} {p : Addr} {c : MC} (h : MuLe a b) (hp : a p = none) : MuLe a (b.up p c) := fun q d e => by
  unfold Mu.up
  split
  · rename_i z; subst z; rw [hp] at e; cases e
  · exact h q d e
theorem MuLe.no {a b : Mu} {p : Addr} (h : MuLe a b) (hp : a p = none) : MuLe a (b.no p) := fun q d e => by
  unfold Mu.no
  split
  · rename_i z; subst z; rw [hp] at e; cases e
  · exact h q d e
theorem up_same {m : Mu} {p : Addr} {c : MC} : (m.up p c) p = some c := by unfold Mu.up; rw [if_pos rfl]
theorem up_ne {m : Mu} {p q : Addr} {c : MC} (h : q ≠ p) : (m.up p c) q = m q := by unfold Mu.up; rw [if_neg h]
theorem up_up {m : Mu} {p : Addr} {c d : MC} : (m.up p c).up p d = m.up p d := by
  funext q; unfold Mu.up; split <;> rfl
theorem up_no {m : Mu} {p : Addr} {c : MC} (h : m p = none) : (m.up p c).no p = m := by
  funext q
  unfold Mu.no Mu.up
  split
  · rename_i z; rw [z, h]
  · rfl
section
variable {X : Cx} {Ω : Om} {δ : Dl} {m : Mu} {P : AV → Mu → Prop} {nx : Dl → Mu → Prop} {rt : AV → Mu → Prop} {bk ct : Dl → Mu → Prop} {e : Expr} {pos : Pos} {st : Stmt}
/-- the value is an own list that is data from now on -/
theorem Ee.fix (h : Ee X Ω e δ m fun a m1 => ∃ p as ds, a = .ptr p ∧ m1 p = some (.lst as) ∧ datas as = some ds ∧ P (.dat (.list ds)) (m1.no p)) : Ee X Ω e δ m P := by
  refine ⟨fun s σ Q hm hs kq => h s σ Q hm hs fun a v t ⟨p, as, ds, ea, hp, ed, q⟩ g r => ?_⟩
  subst ea
  have er : v = .ref p := r
  subst er
  obtain ⟨xs, h1, h2⟩ := own_lst hp
  have gm := (t.own p _ hp).1
  exact kq (.dat (.list ds)) _ (t.fix p (.lst xs) (by rw [hp]; rfl) h1) q (g.trans (same_new gm)) (.lst (by exact upd_same) (RpA.mono (same_new gm) _ _ (datas_rp ed h2)))
theorem s_ret' (h : Ee X Ω e δ m fun a m1 => ∃ m2, MuLe m2 m1 ∧ rt a m2) : Es X Ω (.Return (some e) pos) δ m ⟨nx, rt, bk, ct⟩ := s_ret (Ee.less h)
end
/-! ## targets -/
def TgOk (X : Cx) (Ω : Om) (tg : Expr) (g : TG) (x : AV) (δ : Dl) (m : Mu) (N : Dl → Mu → Prop) : Prop := ∀ (s : Wd X.K) (σ : L2.St) (v : V) (R : L2.St → Hp → Prop), s.m = m → Sl X.K s.G σ δ → Av X.K s.G v x → (∀ δ' σ' (t : Wd X.K), N δ' t.m → Same s.G t.G → Sl X.K t.G σ' δ' → R σ' t.H) → g v σ s.H R
def TgsOk (X : Cx) (Ω : Om) (tgs : List Expr) (g : TGs) (xs : List AV) (δ : Dl) (m : Mu) (N : Dl → Mu → Prop) : Prop := ∀ (s : Wd X.K) (σ : L2.St) (vs : List V) (R : L2.St → Hp → Prop), s.m = m → Sl X.K s.G σ δ → Paired (Av X.K s.G) vs xs → (∀ δ' σ' (t : Wd X.K), N δ' t.m → Same s.G t.G → Sl X.K t.G σ' δ' → R σ' t.H) → g vs σ s.H R
/-- the reading of a target by its syntax -/
def wG (X : Cx) (tg : Expr) : TG := fun v σ H R => ∃ g, PG X tg g ∧ g v σ H R
theorem wG.pg {X : Cx} {tg : Expr} : PG X tg (wG X tg) := ⟨fun pins s σ H v u Q I r h => by
  obtain ⟨g, hg, q⟩ := h
  exact hg.run pins s σ H v u Q I r q⟩
structure Eg (X : Cx) (Ω : Om) (tg : Expr) (x : AV) (δ : Dl) (m : Mu) (N : Dl → Mu → Prop) : Prop where
  ex : ∃ g, PG X tg g ∧ TgOk X Ω tg g x δ m N
structure Egs (X : Cx) (Ω : Om) (tgs : List Expr) (xs : List AV) (δ : Dl) (m : Mu) (N : Dl → Mu → Prop) : Prop where
  ex : ∃ g, PGs X tgs g ∧ TgsOk X Ω tgs g xs δ m N
section
variable {X : Cx} {Ω : Om} {δ : Dl} {m : Mu} {pos p2 : Pos} {tg : Expr} {tgs : List Expr} {x : AV} {xs : List AV} {N : Dl → Mu → Prop}
theorem g_name {i : Nat} {n : Str} (hN : X.N.Nodup) (hi : X.N[i]? = some n) (h : N (δ.set i (some x)) m) (hx : Loc X.env.scope n := by first | exact .inl rfl | exact .inr rfl) (hf : X.fn n = true ∨ X.env.scope.names.lookup n = some .local := by first | exact .inl rfl | exact .inr rfl) :
    Eg X Ω (.Name n pos) x δ m N := ⟨_, pg_name hN hi hx hf, fun s σ v R hm hs r k => k _ _ s (hm ▸ h) (Same.refl _) (hs.set r)⟩
theorem gs_nil (h : N δ m) : Egs X Ω [] [] δ m N := ⟨_, pgs_nil, fun s σ vs R hm hs r k => by cases r; exact ⟨rfl, k _ _ s (hm ▸ h) (Same.refl _) hs⟩⟩
theorem gs_name {i : Nat} {n : Str} (hN : X.N.Nodup) (hi : X.N[i]? = some n) (h : Egs X Ω tgs xs (δ.set i (some x)) m N) (hx : Loc X.env.scope n := by first | exact .inl rfl | exact .inr rfl) (hf : X.fn n = true ∨ X.env.scope.names.lookup n = some .local := by first | exact .inl rfl | exact .inr rfl)
    (hs' : (assignEach (.Name n pos :: tgs) X.env).map (·.2) = assign (.Name n pos) X.env :: (assignEach tgs X.env).map (·.2) := by rfl) : Egs X Ω (.Name n pos :: tgs) (x :: xs) δ m N := by
  obtain ⟨g, hg, hk⟩ := h
  refine ⟨_, pgs_cons (pg_name hN hi hx hf) hg hs', fun s σ vs R hm hs r k => ?_⟩
  cases r with
  | cons r1 r2 => exact ⟨_, _, rfl, hk s _ _ R hm (hs.set r1) r2 k⟩
theorem av_dats {K : PySem.W.Frag} {G : Hp} : ∀ {ds : List PyData} {vs : List V}, RpA K G vs ds → Paired (Av K G) vs (ds.map .dat)
  | [], _, h => by cases h; exact .nil
  | d :: ds, _, h => by
    cases h with
    | cons h1 h2 => exact .cons h1 (av_dats h2)
theorem g_tup {k : Nat} {ds : List PyData} (hc : X.calm = true) (h : Egs X Ω tgs (ds.map .dat) δ m N) (hn : (assignEach tgs X.env).length = ds.length := by rfl) (hst : (assignEach tgs X.env).findIdx? (·.1) = none := by rfl) : Eg X Ω (.Tuple tgs k pos) (.dat (.tuple ds)) δ m N := by
  obtain ⟨g, hg, hk⟩ := h
  refine ⟨_, pg_tup hc hg hn hst, fun s σ v R hm hs r k => ?_⟩
  obtain ⟨a, xs, rfl, h1, h2⟩ := av_tup r
  exact ⟨a, xs, rfl, sqT_up h1, RpA.length _ _ h2, hk s σ xs R hm hs (av_dats h2) k⟩
theorem g_unl {k : Nat} {ds : List PyData} (hc : X.calm = true) (h : Egs X Ω tgs (ds.map .dat) δ m N) (hn : (assignEach tgs X.env).length = ds.length := by rfl) (hst : (assignEach tgs X.env).findIdx? (·.1) = none := by rfl) : Eg X Ω (.Tuple tgs k pos) (.dat (.list ds)) δ m N := by
  obtain ⟨g, hg, hk⟩ := h
  refine ⟨_, pg_unl hc hg hn hst, fun s σ v R hm hs r k => ?_⟩
  obtain ⟨a, xs, rfl, h1, h2⟩ := av_lst r
  exact ⟨a, xs, rfl, sqL_up (SqL.of h1), RpA.length _ _ h2, hk s σ xs R hm hs (av_dats h2) k⟩
end
/-! ## assignments -/
section
variable {X : Cx} {Ω : Om} {δ : Dl} {m : Mu} {nx : Dl → Mu → Prop} {rt : AV → Mu → Prop} {bk ct : Dl → Mu → Prop} {pos p1 p2 p3 p4 : Pos} {a b c e tg : Expr} {es : List Expr}
theorem s_set {i : Nat} {n : Str} (hN : X.N.Nodup) (hi : X.N[i]? = some n) (h : Ee X Ω e δ m fun x m1 => nx (δ.set i (some x)) m1) (hx : Loc X.env.scope n := by first | exact .inl rfl | exact .inr rfl) (hsw : swapsWith e (some (.Name n p1)) pos.line X.env = pure false := by rfl)
    (hf : X.fn n = true ∨ X.env.scope.names.lookup n = some .local := by first | exact .inl rfl | exact .inr rfl) : Es X Ω (.Assign [.Name n p1] e pos) δ m ⟨nx, rt, bk, ct⟩ :=
  Es.of (ps_set hN hi hx wE.pe hsw hf) fun s σ D hm hs k => h s σ _ hm hs fun x v t p g r => k.nx _ _ t p g ((hs.sl.mono g).set r)
theorem s_asg (h : Ee X Ω e δ m fun x m1 => Eg X Ω tg x δ m1 nx) (hsw : swapsWithSole [tg] e pos.line X.env = pure false := by rfl) (hw : swappedStores [tg] e X.env = pure none := by rfl)
    (h1 : (assignEach [tg] X.env).map (·.2) = [assign tg X.env] := by rfl) : Es X Ω (.Assign [tg] e pos) δ m ⟨nx, rt, bk, ct⟩ :=
  Es.of (ps_asg wE.pe wG.pg hsw hw h1) fun s σ D hm hs k => h s σ _ hm hs fun x v t ⟨g, hg, hk⟩ g1 r => ⟨g, hg, hk t σ v _ rfl (hs.sl.mono g1) r fun δ' σ' u p g2 r2 => k.nx δ' σ' u p (g1.trans g2) r2⟩
/-- a, b = x, y -/
theorem s_par {i j : Nat} {x y : Str} {kt k2 : Nat} (hc : X.calm = true) (hN : X.N.Nodup) (hi : X.N[i]? = some x) (hj : X.N[j]? = some y) (h : Ee X Ω a δ m fun v m1 => Ee X Ω b δ m1 fun w m2 => nx ((δ.set i (some v)).set j (some w)) m2) (hij : i ≠ j := by decide)
    (hx : X.env.scope.names.lookup x = some .local := by rfl) (hy : X.env.scope.names.lookup y = some .local := by rfl) (hst : starEach [a, b] X.env = (false, eval a X.env) :: starEach [b] X.env := by rfl) (hst2 : starEach [b] X.env = (false, eval b X.env) :: starEach [] X.env := by rfl)
    (hw : swappedStores [.Tuple [.Name x p1, .Name y p2] kt p3] (.Tuple [a, b] k2 p4) X.env = pure (some [x, y]) := by rfl)
    (hs' : swapsWithSole [.Tuple [.Name x p1, .Name y p2] kt p3] (.Tuple [a, b] k2 p4) pos.line X.env = pure false := by rfl) : Es X Ω (.Assign [.Tuple [.Name x p1, .Name y p2] kt p3] (.Tuple [a, b] k2 p4) pos) δ m ⟨nx, rt, bk, ct⟩ :=
  Es.of (ps_par hc hN hi hj hij hx hy (pa_cons wE.pe (pa_cons wE.pe pa_nil hst2) hst) hw hs') fun s σ D hm hs k => h s σ _ hm hs fun v vv s1 p1 g1 r1 => p1 s1 σ _ rfl (hs.mono g1) fun w vw s2 p2 g2 r2 =>
    ⟨vv, vw, rfl, k.nx _ _ s2 p2 (g1.trans g2) (((hs.sl.mono (g1.trans g2)).set (r1.mono g2)).set r2)⟩
end
/-! ## loops -/
section
variable {X : Cx} {Ω : Om} {δ : Dl} {m : Mu} {nx : Dl → Mu → Prop} {rt : AV → Mu → Prop} {bk ct : Dl → Mu → Prop} {pos p1 p2 : Pos} {a b c e tg iter : Expr} {es : List Expr} {body : List Stmt}
theorem s_while (hp : PassesOwn (model X.prog X.w) X.A X.env X.xe) (W : Nat → Dl → Mu → Prop) (n0 : Nat) (h0 : W n0 δ m)
    (h : ∀ n δ' m', W n δ' m' → Et X Ω c δ' m' fun k m1 => if k = true then Eb X Ω body δ' m1 { nx := fun δ2 m2 => ∃ n2, n2 < n ∧ W n2 δ2 m2, rt := rt, bk := nx, ct := fun δ2 m2 => ∃ n2, n2 < n ∧ W n2 δ2 m2 } else nx δ' m1) : Es X Ω (.While c body [] pos) δ m ⟨nx, rt, bk, ct⟩ :=
  Es.of (ps_while hp wT.pt wB.pss) fun s σ D hm hs k => by
    refine ⟨fun n σ' H' => ∃ (δ' : Dl) (t : Wd X.K), t.H = H' ∧ Same s.G t.G ∧ Sl X.K t.G σ' δ' ∧ W n δ' t.m, ⟨n0, δ, s, rfl, Same.refl _, hs.sl, hm ▸ h0⟩, ?_⟩
    rintro n σ' H' ⟨δ', t, rfl, g, r, w⟩
    refine h n δ' t.m w t σ' _ rfl (hs.to g r) fun bb s1 p1 g1 => ?_
    cases bb with
    | true =>
      refine ⟨fun σ2 H2 => ∃ n2, n2 < n ∧ ∃ (δ2 : Dl) (t2 : Wd X.K), t2.H = H2 ∧ Same s.G t2.G ∧ Sl X.K t2.G σ2 δ2 ∧ W n2 δ2 t2.m, fun σ2 H2 ⟨n2, hn, q⟩ => ⟨n2, hn, q⟩, ?_⟩
      have p1' : Eb X Ω body δ' s1.m _ := p1
      exact p1' s1 σ' _ rfl (hs.to (g.trans g1) (r.mono g1)) ⟨fun δ2 σ2 t2 ⟨n2, hn, w2⟩ g2 r2 => ⟨n2, hn, δ2, t2, rfl, (g.trans g1).trans g2, r2, w2⟩, fun a v t2 p g2 r2 => k.rt a v t2 p ((g.trans g1).trans g2) r2,
        fun δ2 σ2 t2 p g2 r2 => k.nx δ2 σ2 t2 p ((g.trans g1).trans g2) r2, fun δ2 σ2 t2 ⟨n2, hn, w2⟩ g2 r2 => ⟨n2, hn, δ2, t2, rfl, (g.trans g1).trans g2, r2, w2⟩⟩
    | false => exact k.nx δ' σ' s1 p1 (g.trans g1) (r.mono g1)
/-- what is walked: the data, in order -/
def seqD : AV → Option (List PyData)
  | .dat (.list ds) => some ds
  | .fz ds => some ds
  | _ => none
/-- the turns of a loop over data: I the word by the turn -/
structure Loop (X : Cx) (Ω : Om) (tg : Expr) (body : List Stmt) (ds : List PyData) (nx : Dl → Mu → Prop) (rt : AV → Mu → Prop) (δ : Dl) (m : Mu) : Prop where
  ex : ∃ I : Nat → Dl → Mu → Prop, I 0 δ m ∧ (∀ k d δ' m', ds[k]? = some d → I k δ' m' → Eg X Ω tg (.dat d) δ' m' fun δ2 m2 => Eb X Ω body δ2 m2 { nx := I (k + 1), rt := rt, bk := nx, ct := I (k + 1) }) ∧ ∀ δ' m', I ds.length δ' m' → nx δ' m'
theorem loop_turn {Ω : Om} {s : Wd X.K} {D : Ends} {σ : L2.St} {I : Nat → Dl → Mu → Prop} (hs : Sk X Ω s.G σ δ) (k : KE X.K s ⟨nx, rt, bk, ct⟩ D) {i : Nat} {d : PyData} {v : V} {σ' : L2.St} {δ' : Dl} {t : Wd X.K} (g : Same s.G t.G) (r : Sl X.K t.G σ' δ') (rv : Rp X.K t.G v d)
    (h : Eg X Ω tg (.dat d) δ' t.m fun δ2 m2 => Eb X Ω body δ2 m2 { nx := I (i + 1), rt := rt, bk := nx, ct := I (i + 1) }) :
    wG X tg v σ' t.H fun σ2 H2 => wB X body { nx := fun σ3 H3 => ∃ (δ3 : Dl) (t3 : Wd X.K), t3.H = H3 ∧ Same s.G t3.G ∧ Sl X.K t3.G σ3 δ3 ∧ I (i + 1) δ3 t3.m, rt := D.rt, bk := D.nx, ct := fun σ3 H3 => ∃ (δ3 : Dl) (t3 : Wd X.K), t3.H = H3 ∧ Same s.G t3.G ∧ Sl X.K t3.G σ3 δ3 ∧ I (i + 1) δ3 t3.m } σ2 H2 := by
  obtain ⟨gg, hg, hk⟩ := h
  refine ⟨gg, hg, hk t σ' v _ rfl r rv fun δ2 σ2 t2 p2 g2 r2 => ?_⟩
  exact p2 t2 σ2 _ rfl (hs.to (g.trans g2) r2) ⟨fun δ3 σ3 t3 p3 g3 r3 => ⟨δ3, t3, rfl, (g.trans g2).trans g3, r3, p3⟩, fun a v t3 p3 g3 r3 => k.rt a v t3 p3 ((g.trans g2).trans g3) r3,
    fun δ3 σ3 t3 p3 g3 r3 => k.nx δ3 σ3 t3 p3 ((g.trans g2).trans g3) r3, fun δ3 σ3 t3 p3 g3 r3 => ⟨δ3, t3, rfl, (g.trans g2).trans g3, r3, p3⟩⟩
theorem s_for (hp : PassesOwn (model X.prog X.w) X.A X.env X.xe) (hc : X.calm = true) (h : Ee X Ω iter δ m fun x m1 => ∃ ds, seqD x = some ds ∧ Loop X Ω tg body ds nx rt δ m1)
    (hset : ∀ x, foldedSetIterable iter X.env x = pure x := by intro _; rfl) : Es X Ω (.For tg iter body [] pos) δ m ⟨nx, rt, bk, ct⟩ :=
  Es.of (ps_for hp hc (pi_list wE.pe) wG.pg wB.pss hset) fun s σ D hm hs k => h s σ _ hm hs fun x v t ⟨ds, ex, ⟨I, h0, hstep, hend⟩⟩ g r => by
    obtain ⟨a, xs, rfl, q, rx⟩ : ∃ a xs, v = .ref a ∧ SqL X.K t.G a xs ∧ RpA X.K t.G xs ds := by
      unfold seqD at ex
      split at ex
      · cases ex
        obtain ⟨a, xs, e1, e2, e3⟩ := av_lst r
        exact ⟨a, xs, e1, SqL.of e2, e3⟩
      · cases ex
        exact r
      · cases ex
    refine ⟨a, rfl, ⟨xs, sqL_up q⟩, for_list (xs := xs) (fun i σ' H' => ∃ (δ' : Dl) (u : Wd X.K), u.H = H' ∧ Same t.G u.G ∧ Sl X.K u.G σ' δ' ∧ I i δ' u.m) ⟨δ, t, rfl, Same.refl _, hs.sl.mono g, h0⟩ ?_ ?_ ?_⟩
    · rintro i σ' H' _ ⟨δ', u, rfl, g2, _, _⟩
      exact sqL_up (g2.seq q)
    · rintro i y σ' H' hy ⟨δ', u, rfl, g2, r2, w⟩
      have hi : i < xs.length := (List.getElem?_eq_some_iff.mp hy).1
      rw [RpA.length _ _ rx] at hi
      obtain ⟨v, e1, e2⟩ := RpA.get _ _ (RpA.mono g2 _ _ rx) i (ds[i]) (List.getElem?_eq_getElem hi)
      rw [hy] at e1
      cases e1
      exact loop_turn (hs.mono g) (k.back g) g2 r2 e2 (hstep i _ δ' u.m (List.getElem?_eq_getElem hi) w)
    · rintro σ' H' ⟨δ', u, rfl, g2, r2, w⟩
      rw [RpA.length _ _ rx] at w
      exact k.nx δ' σ' u (hend δ' u.m w) (g.trans g2) r2
theorem s_forT (hp : PassesOwn (model X.prog X.w) X.A X.env X.xe) (hc : X.calm = true) (h : Ee X Ω iter δ m fun x m1 => ∃ ds, x = .dat (.tuple ds) ∧ Loop X Ω tg body ds nx rt δ m1)
    (hset : ∀ x, foldedSetIterable iter X.env x = pure x := by intro _; rfl) : Es X Ω (.For tg iter body [] pos) δ m ⟨nx, rt, bk, ct⟩ :=
  Es.of (ps_for hp hc (pi_tup wE.pe) wG.pg wB.pss hset) fun s σ D hm hs k => h s σ _ hm hs fun x v t ⟨ds, ex, ⟨I, h0, hstep, hend⟩⟩ g r => by
    subst ex
    obtain ⟨a, xs, rfl, q, rx⟩ := av_tup r
    refine ⟨a, rfl, ⟨xs, sqT_up q⟩, for_tup (xs := xs) (fun i σ' H' => ∃ (δ' : Dl) (u : Wd X.K), u.H = H' ∧ Same t.G u.G ∧ Sl X.K u.G σ' δ' ∧ I i δ' u.m) ⟨δ, t, rfl, Same.refl _, hs.sl.mono g, h0⟩ ?_ ?_ ?_⟩
    · rintro i σ' H' _ ⟨δ', u, rfl, g2, _, _⟩
      exact sqT_up (sqt_mono g2 q)
    · rintro i y σ' H' hy ⟨δ', u, rfl, g2, r2, w⟩
      have hi : i < xs.length := (List.getElem?_eq_some_iff.mp hy).1
      rw [RpA.length _ _ rx] at hi
      obtain ⟨v, e1, e2⟩ := RpA.get _ _ (RpA.mono g2 _ _ rx) i (ds[i]) (List.getElem?_eq_getElem hi)
      rw [hy] at e1
      cases e1
      exact loop_turn (hs.mono g) (k.back g) g2 r2 e2 (hstep i _ δ' u.m (List.getElem?_eq_getElem hi) w)
    · rintro σ' H' ⟨δ', u, rfl, g2, r2, w⟩
      rw [RpA.length _ _ rx] at w
      exact k.nx δ' σ' u (hend δ' u.m w) (g.trans g2) r2
/-- a text's sgns -/
def sgns (z : Str) : List PyData := z.cps.toList.map fun c => .str ⟨#[c]⟩
theorem s_forS (hp : PassesOwn (model X.prog X.w) X.A X.env X.xe) (hc : X.calm = true) (h : Ee X Ω iter δ m fun x m1 => ∃ z, x = .dat (.str z) ∧ Loop X Ω tg body (sgns z) nx rt δ m1)
    (hset : ∀ x, foldedSetIterable iter X.env x = pure x := by intro _; rfl) : Es X Ω (.For tg iter body [] pos) δ m ⟨nx, rt, bk, ct⟩ :=
  Es.of (ps_for hp hc (pi_str wE.pe) wG.pg wB.pss hset) fun s σ D hm hs k => h s σ _ hm hs fun x v t ⟨z, ex, ⟨I, h0, hstep, hend⟩⟩ g r => by
    subst ex
    refine ⟨z, av_str r, fun i mm σ' H' => mm = z.cps.size - i ∧ i ≤ z.cps.size ∧ ∃ (δ' : Dl) (u : Wd X.K), u.H = H' ∧ Same t.G u.G ∧ Sl X.K u.G σ' δ' ∧ I i δ' u.m, ⟨z.cps.size, by simp, Nat.zero_le _, δ, t, rfl, Same.refl _, hs.sl.mono g, h0⟩, ?_⟩
    have hl : (sgns z).length = z.cps.size := by simp [sgns]
    rintro i mm σ' H' ⟨rfl, hi, δ', u, rfl, g2, r2, w⟩
    by_cases hlt : i < z.cps.size
    · refine .inr ⟨hlt, fun σ3 H3 => ∃ (δ3 : Dl) (t3 : Wd X.K), t3.H = H3 ∧ Same t.G t3.G ∧ Sl X.K t3.G σ3 δ3 ∧ I (i + 1) δ3 t3.m, fun σ3 H3 q => ⟨z.cps.size - (i + 1), by omega, rfl, hlt, q⟩, ?_⟩
      rintro x H3 ⟨rfl, c, hc', rfl⟩
      exact loop_turn (hs.mono g) (k.back g) g2 r2 (.str _) (hstep i _ δ' u.m (by simp [sgns]; simpa using hc') w)
    · have e : i = z.cps.size := by omega
      subst e
      rw [← hl] at w
      exact .inl ⟨Nat.le_refl _, k.nx δ' σ' u (hend δ' u.m w) (g.trans g2) r2⟩
/-- range(n): the ints 0 .. n-1 -/
def rangeD (lo : Int) (n : Nat) : List PyData := (List.range n).map fun k => .int (lo + (k : Nat))
theorem s_forR {p3 : Pos} (hp : PassesOwn (model X.prog X.w) X.A X.env X.xe) (hc : X.calm = true) (hm' : X.mg "range" = none) (h : Ee X Ω a δ m fun x m1 => ∃ j : Int, x = .dat (.int j) ∧ -(2 ^ 62) ≤ j ∧ j < 2 ^ 62 ∧ Loop X Ω tg body (rangeD 0 j.toNat) nx rt δ m1)
    (hg : Gl X "range" := by rfl) (hst : starEach [a] X.env = (false, eval a X.env) :: starEach [] X.env := by rfl) (hset : ∀ x, foldedSetIterable (.Call (.Name "range" p1) [a] [] p3) X.env x = pure x := by intro _; rfl) : Es X Ω (.For tg (.Call (.Name "range" p1) [a] [] p3) body [] pos) δ m ⟨nx, rt, bk, ct⟩ :=
  Es.of (ps_for hp hc (pi_range1 hg hm' (pa_cons wE.pe pa_nil hst) hst) wG.pg wB.pss hset) fun s σ D hm hs k => h s σ _ hm hs fun x v t ⟨j, ex, hj1, hj2, ⟨I, h0, hstep, hend⟩⟩ g r => by
    subst ex
    refine ⟨j, by rw [av_int r], hj1, hj2, for_range (lo := 0) (n := j.toNat) (fun i σ' H' => ∃ (δ' : Dl) (u : Wd X.K), u.H = H' ∧ Same t.G u.G ∧ Sl X.K u.G σ' δ' ∧ I i δ' u.m) ⟨δ, t, rfl, Same.refl _, hs.sl.mono g, h0⟩ ?_ ?_⟩
    · rintro i σ' H' hi ⟨δ', u, rfl, g2, r2, w⟩
      exact loop_turn (hs.mono g) (k.back g) g2 r2 (.int _) (hstep i _ δ' u.m (by simp [rangeD, hi]) w)
    · rintro σ' H' ⟨δ', u, rfl, g2, r2, w⟩
      have hl : (rangeD 0 j.toNat).length = j.toNat := by simp [rangeD]
      rw [← hl] at w
      exact k.nx δ' σ' u (hend δ' u.m w) (g.trans g2) r2
end
/-! ## comprehensions of data, one clause, the target a name -/
theorem wipe_one (σ : L2.St) (i : Nat) (v : V) : wipe ((wipe σ [i]).set i (some v)) [i] = wipe σ [i] := by
  show ((σ.set i none).set i (some v)).set i none = σ.set i none
  rw [List.set_set, List.set_set]
section
variable {X : Cx} {Ω : Om} {δ : Dl} {m : Mu} {P : AV → Mu → Prop} {pos p1 p2 p3 : Pos} {a b c e tg iter elt : Expr} {es ifs : List Expr}
/-- the block's context -/
abbrev blkX (X : Cx) (sc : Scope) (s : Shared) (H : Hp) (C : Addr) (cl : List (Str × Addr)) (fp : List Addr) : Cx := X.blk s H sc (compEnvC sc cl C X.env) fp
def wEb (X : Cx) (sc : Scope) (e : Expr) : TE := fun σ H Q => ∀ s H0 C cl fp, wE (blkX X sc s H0 C cl fp) e σ H Q
def wTb (X : Cx) (sc : Scope) (e : Expr) : TT := fun σ H Q => ∀ s H0 C cl fp, wT (blkX X sc s H0 C cl fp) e σ H Q
def wGb (X : Cx) (sc : Scope) (e : Expr) : TG := fun v σ H Q => ∀ s H0 C cl fp, wG (blkX X sc s H0 C cl fp) e v σ H Q
theorem Sl.blk {sc : Scope} {s0 : Shared} {H0 : Hp} {C : Addr} {cl : List (Str × Addr)} {fp : List Addr} {G : Hp} {σ : L2.St} (h : Sl X.K G σ δ) : Sk (blkX X sc s0 H0 C cl fp) om0 G σ δ := ⟨h, fun _ _ _ _ => False, takesZ, fun _ _ _ _ _ _ o => o.elim⟩
/-- what an item gives: F, by the element and the tests -/
def Item (X : Cx) (sc : Scope) (ifs : List Expr) (elt : Expr) (δ : Dl) (m : Mu) (F : Option PyData) : Prop := match ifs with
  | [] => ∃ e, F = some e ∧ ∀ s H C cl fp, Ee (blkX X sc s H C cl fp) om0 elt δ m fun a m1 => m1 = m ∧ a = .dat e
  | [t] => ∃ b, (∀ s H C cl fp, Et (blkX X sc s H C cl fp) om0 t δ m fun k m1 => m1 = m ∧ k = b) ∧ if b = true then ∃ e, F = some e ∧ ∀ s H C cl fp, Ee (blkX X sc s H C cl fp) om0 elt δ m fun a m1 => m1 = m ∧ a = .dat e else F = none
  | _ => False
def wIfs (X : Cx) (sc : Scope) : List Expr → TT
  | [] => tYes
  | [t] => wTb X sc t
  | _ => fun _ _ _ => False
theorem wIfs.pts {sc : Scope} : ∀ (ifs : List Expr) (s : Shared) (H : Hp) (C : Addr) (cl : List (Str × Addr)) (fp : List Addr), PTs (blkX X sc s H C cl fp) ifs (wIfs X sc ifs)
  | [], _, _, _, _, _ => pts_nil
  | [t], s, H, C, cl, fp => pts_one ⟨fun pins sh σ H' Q I h => (h s H C cl fp) pins sh I⟩
  | _ :: _ :: _, _, _, _, _, _ => ⟨fun _ _ _ _ _ _ h => h.elim⟩
theorem wEb.pe {sc : Scope} (s : Shared) (H : Hp) (C : Addr) (cl : List (Str × Addr)) (fp : List Addr) : PE (blkX X sc s H C cl fp) elt (wEb X sc elt) := ⟨fun pins sh σ H' Q I h => (h s H C cl fp) pins sh I⟩
theorem paired_snoc {α β : Type} {R : α → β → Prop} {x : α} {y : β} (h : R x y) : ∀ {xs : List α} {ys : List β}, Paired R xs ys → Paired R (xs ++ [x]) (ys ++ [y])
  | _, _, .nil => .cons h .nil
  | _, _, .cons r t => .cons r (paired_snoc h t)
/-- a list that is being made takes one more -/
def CompSt (s : Wd X.K) (D : Addr) (done : List PyData) (H : Hp) : Prop := ∃ u : Wd X.K, u.H = H ∧ Same s.G u.G ∧ u.m = s.m.up D (.lst (done.map .dat))
theorem comp_turn {sc : Scope} {i : Nat} {s t : Wd X.K} {σ : L2.St} {D : Addr} {d : PyData} {F : Option PyData} {done : List PyData} {vd : V} (hs : Sl X.K s.G σ δ) (g : Same s.G t.G)
    (w : t.m = s.m.up D (.lst (done.map .dat))) (hlen : done.length ≤ 1000000) (rd : Rp X.K t.G vd d) (h : Item X sc ifs elt (δ.set i (some (.dat d))) t.m F) :
    wIfs X sc ifs ((wipe σ [i]).set i (some vd)) t.H fun b H3 => if b = true then wEb X sc elt ((wipe σ [i]).set i (some vd)) H3 fun y H4 => ∃ acc, H4 D = some (.lst acc) ∧ acc.length < sizeLine ∧
      CompSt s D (done ++ F.toList) (upd H4 D (.lst (acc ++ [y]))) else CompSt s D (done ++ F.toList) H3 := by
  have hσ : Sl X.K t.G ((wipe σ [i]).set i (some vd)) (δ.set i (some (.dat d))) := by
    refine ⟨by simp [wipe, hs.len], fun j a q => ?_⟩
    by_cases hj : i = j
    · subst hj
      by_cases hi : i < δ.length
      · rw [List.getElem?_set_self hi] at q
        cases q
        exact ⟨vd, by rw [List.getElem?_set_self (by simp [wipe]; have := hs.len; omega)], rd⟩
      · rw [List.getElem?_eq_none (by simpa using hi)] at q; cases q
    · rw [List.getElem?_set_ne hj] at q
      obtain ⟨v, e1, e2⟩ := hs.at' j a q
      refine ⟨v, ?_, e2.mono g⟩
      rw [List.getElem?_set_ne hj]
      show (σ.set i none)[j]? = some (some v)
      rw [List.getElem?_set_ne hj]
      exact e1
  have mk : ∀ (e : PyData) (t2 : Wd X.K), Same t.G t2.G → t2.m = t.m → F = some e → (∀ s0 H C cl fp, Ee (blkX X sc s0 H C cl fp) om0 elt (δ.set i (some (.dat d))) t.m fun a m1 => m1 = t.m ∧ a = .dat e) →
      wEb X sc elt ((wipe σ [i]).set i (some vd)) t2.H fun y H4 => ∃ acc, H4 D = some (.lst acc) ∧ acc.length < sizeLine ∧ CompSt s D (done ++ F.toList) (upd H4 D (.lst (acc ++ [y]))) := by
    intro e t2 g2 m2 eF he s0 H C cl fp
    refine (he s0 H C cl fp) t2 _ _ m2 (Sl.blk (hσ.mono g2)) ?_
    rintro a v t3 ⟨m3, ea⟩ g3 r3
    subst ea
    have hp : t3.m D = some (.lst (done.map .dat)) := by rw [m3, w]; exact up_same
    obtain ⟨xs, h1, h2⟩ := own_lst hp
    refine ⟨xs, h1, Nat.lt_of_le_of_lt (by rw [Paired.length h2, List.length_map]; exact hlen) (by decide), ?_⟩
    refine ⟨t3.put D (.lst (xs ++ [v])) (.lst ((done ++ [e]).map .dat)) (by rw [hp]; rfl) ⟨_, upd_same, ?_⟩, rfl, (g.trans g2).trans g3, ?_⟩
    · rw [List.map_append]
      exact paired_snoc r3 h2
    · show t3.m.up D _ = _
      rw [m3, w, up_up, eF]
      rfl
  unfold Item at h
  split at h
  · obtain ⟨e, eF, he⟩ := h
    exact iteT (B := CompSt s D (done ++ F.toList) t.H) (mk e t (Same.refl _) rfl eF he)
  · obtain ⟨b, ht, hb⟩ := h
    intro s0 H C cl fp
    refine (ht s0 H C cl fp) t _ _ rfl (Sl.blk hσ) ?_
    rintro k t2 ⟨m2, ek⟩ g2
    subst ek
    cases k with
    | true =>
      obtain ⟨e, eF, he⟩ := (show ∃ e, F = some e ∧ _ from hb)
      exact iteT (mk e t2 g2 m2 eF he)
    | false =>
      have eF : F = none := hb
      refine iteF ⟨t2, rfl, g.trans g2, ?_⟩
      rw [m2, w, eF]
      show s.m.up D _ = s.m.up D (.lst ((done ++ []).map .dat))
      rw [List.append_nil]
  · exact h.elim
/-- the data that a comprehension gives -/
theorem wGb.pg {sc : Scope} (s : Shared) (H : Hp) (C : Addr) (cl : List (Str × Addr)) (fp : List Addr) : PG (blkX X sc s H C cl fp) tg (wGb X sc tg) := ⟨fun pins sh σ H' v u Q I r h => wG.pg.run pins sh σ H' v u Q I r (h s H C cl fp)⟩
theorem fm_take {ds : List PyData} {F : PyData → Option PyData} {i : Nat} {d : PyData} (h : ds[i]? = some d) : (ds.take (i + 1)).filterMap F = (ds.take i).filterMap F ++ (F d).toList := by
  rw [List.take_succ, h, List.filterMap_append]
  cases e : F d <;> simp [e]
theorem fm_len (ds : List PyData) (F : PyData → Option PyData) (i : Nat) : ((ds.take i).filterMap F).length ≤ ds.length := Nat.le_trans (List.length_filterMap_le _ _) (by rw [List.length_take]; omega)
theorem lc_read {i : Nat} {sc : Scope} {s t : Wd X.K} {σ : L2.St} {Q : VK} {D a : Addr} {xs : List V} {ds : List PyData} {F : PyData → Option PyData} (hs : Sl X.K s.G σ δ) (kq : K1 X.K s P Q) (g : Same s.G t.G) (q : SqL X.K t.G a xs) (rx : RpA X.K t.G xs ds) (hl : ds.length ≤ 1000000) (hD : t.H D = none)
    (h : ∀ m', MuLe t.m m' → ∀ d, d ∈ ds → Item X sc ifs elt (δ.set i (some (.dat d))) m' (F d)) (p : P (.dat (.list (ds.filterMap F))) t.m) :
    ∃ W : Nat → Nat → Hp → Prop, (∃ m, W 0 m (upd t.H D (.lst []))) ∧ ∀ k m H, W k m H →
      ((Itl X.K a).stop k H ∧ Q (.ref D) H) ∨ ((Itl X.K a).go k H ∧ ∃ Nx : Hp → Prop, (∀ H', Nx H' → ∃ m', m' < m ∧ W (k + 1) m' H') ∧ ∀ x H', (Itl X.K a).yld k H x H' → gName i x (wipe σ [i]) H' fun σ2 H2 => wipe σ2 [i] = wipe σ [i] ∧ wIfs X sc ifs σ2 H2 fun b H3 =>
        if b = true then wEb X sc elt σ2 H3 fun y H4 => ∃ acc, H4 D = some (.lst acc) ∧ acc.length < sizeLine ∧ Nx (upd H4 D (.lst (acc ++ [y]))) else Nx H3) := by
  refine lc_list (K := X.K) (a := a) (xs := xs) (fun k H' => CompSt t D ((ds.take k).filterMap F) H') ?_ ?_ ?_ ?_
  · exact ⟨t.newM D (.lst []) (.lst []) hD ⟨[], upd_same, .nil⟩, rfl, Same.refl _, rfl⟩
  · rintro k H' _ ⟨u, rfl, g2, _⟩
    exact sqL_up (g2.seq q)
  · rintro k y H' hy ⟨u, rfl, g2, w⟩
    have hi : k < xs.length := (List.getElem?_eq_some_iff.mp hy).1
    rw [RpA.length _ _ rx] at hi
    have ed : ds[k]? = some ds[k] := List.getElem?_eq_getElem hi
    obtain ⟨v, e1, e2⟩ := RpA.get _ _ (RpA.mono g2 _ _ rx) k _ ed
    rw [hy] at e1
    cases e1
    refine ⟨wipe_one σ i y, ?_⟩
    rw [fm_take ed]
    have hle : MuLe t.m u.m := by
      rw [w]
      exact (MuLe.refl _).up (t.mfree hD)
    exact comp_turn (hs.mono g) g2 w (Nat.le_trans (fm_len _ _ _) hl) e2 (h u.m hle _ (List.getElem_mem hi))
  · rintro H' ⟨u, rfl, g2, w⟩
    rw [RpA.length _ _ rx, List.take_length] at w
    have hp : u.m D = some (.lst ((ds.filterMap F).map .dat)) := by rw [w]; exact up_same
    obtain ⟨ys, h1, h2⟩ := own_lst hp
    have gm := (u.own D _ hp).1
    have dd : ∀ zs : List PyData, datas (zs.map .dat) = some zs := fun zs => by
      induction zs with
      | nil => rfl
      | cons z zs ih => show (datas (zs.map .dat)).map _ = _; rw [ih]; rfl
    exact kq (.dat (.list (ds.filterMap F))) _ (u.fix D (.lst ys) (by rw [hp]; rfl) h1) (by show P _ (u.m.no D); rw [w, up_no (t.mfree hD)]; exact p) ((g.trans g2).trans (same_new gm))
      (.lst (by exact upd_same) (RpA.mono (same_new gm) _ _ (datas_rp (dd _) h2)))
theorem e_lc {i : Nat} {n : Str} {sc : Scope} (F : PyData → Option PyData) (hc : X.calm = true) (hN : X.N.Nodup) (h : Ee X Ω iter δ m fun x m1 => ∃ ds, seqD x = some ds ∧ ds.length ≤ 1000000 ∧ (∀ m', MuLe m1 m' → ∀ d, d ∈ ds → Item X sc ifs elt (δ.set i (some (.dat d))) m' (F d)) ∧ P (.dat (.list (ds.filterMap F))) m1)
    (ok : BlkOk X.N X.env.scope sc [(n, i)]) (hi : X.N[i]? = some n) (hx : ∀ s H C cl fp, Loc (blkX X sc s H C cl fp).env.scope n := by first | exact fun _ _ _ _ _ => .inl rfl | exact fun _ _ _ _ _ => .inr rfl) (hf : ∀ s H C cl fp, (blkX X sc s H C cl fp).fn n = true ∨ (blkX X sc s H C cl fp).env.scope.names.lookup n = some .local := by first | exact fun _ _ _ _ _ => .inr rfl | exact fun _ _ _ _ _ => .inl rfl) (hset : ∀ x, foldedSetIterable iter X.env x = pure x := by intro _; rfl) :
    Ee X Ω (.ListComp elt [⟨.Name n p1, iter, ifs, 0⟩] sc pos) δ m P :=
  Ee.of (pe_lc (own := [(n, i)]) (g := gName i) hc hN (pi_list wE.pe) ok (fun s H C cl fp => pg_name hN hi (hx s H C cl fp) (hf s H C cl fp)) (wIfs.pts ifs) wEb.pe hset) fun s σ Q hm hs kq => h s σ _ hm hs fun x v t ⟨ds, ex, hl, hit, p⟩ g r => by
    obtain ⟨a, xs, rfl, q, rx⟩ : ∃ a xs, v = .ref a ∧ SqL X.K t.G a xs ∧ RpA X.K t.G xs ds := by
      unfold seqD at ex
      split at ex
      · cases ex
        obtain ⟨a, xs, e1, e2, e3⟩ := av_lst r
        exact ⟨a, xs, e1, SqL.of e2, e3⟩
      · cases ex
        exact r
      · cases ex
    exact ⟨a, rfl, ⟨xs, sqL_up q⟩, fun D hD => lc_read hs.sl kq g q rx hl hD hit p⟩
theorem lc_end {s t u : Wd X.K} {Q : VK} {D : Addr} {ds : List PyData} (kq : K1 X.K s P Q) (g : Same s.G t.G) (hD : t.H D = none) (g2 : Same t.G u.G) (w : u.m = t.m.up D (.lst (ds.map .dat))) (p : P (.dat (.list ds)) t.m) : Q (.ref D) u.H := by
  have hp : u.m D = some (.lst (ds.map .dat)) := by rw [w]; exact up_same
  obtain ⟨ys, h1, h2⟩ := own_lst hp
  have gm := (u.own D _ hp).1
  have dd : ∀ zs : List PyData, datas (zs.map .dat) = some zs := fun zs => by
    induction zs with
    | nil => rfl
    | cons z zs ih => show (datas (zs.map .dat)).map _ = _; rw [ih]; rfl
  exact kq (.dat (.list ds)) _ (u.fix D (.lst ys) (by rw [hp]; rfl) h1) (by show P _ (u.m.no D); rw [w, up_no (t.mfree hD)]; exact p) ((g.trans g2).trans (same_new gm))
    (.lst (by exact upd_same) (RpA.mono (same_new gm) _ _ (datas_rp (dd _) h2)))
theorem lc_readS {i : Nat} {sc : Scope} {s t : Wd X.K} {σ : L2.St} {Q : VK} {D : Addr} {z : Str} {F : PyData → Option PyData} (hs : Sl X.K s.G σ δ) (kq : K1 X.K s P Q) (g : Same s.G t.G) (hl : z.cps.size ≤ 1000000) (hD : t.H D = none)
    (h : ∀ m', MuLe t.m m' → ∀ d, d ∈ sgns z → Item X sc ifs elt (δ.set i (some (.dat d))) m' (F d)) (p : P (.dat (.list ((sgns z).filterMap F))) t.m) :
    ∃ W : Nat → Nat → Hp → Prop, (∃ m, W 0 m (upd t.H D (.lst []))) ∧ ∀ k m H, W k m H →
      ((Its z).stop k H ∧ Q (.ref D) H) ∨ ((Its z).go k H ∧ ∃ Nx : Hp → Prop, (∀ H', Nx H' → ∃ m', m' < m ∧ W (k + 1) m' H') ∧ ∀ x H', (Its z).yld k H x H' → gName i x (wipe σ [i]) H' fun σ2 H2 => wipe σ2 [i] = wipe σ [i] ∧ wIfs X sc ifs σ2 H2 fun b H3 =>
        if b = true then wEb X sc elt σ2 H3 fun y H4 => ∃ acc, H4 D = some (.lst acc) ∧ acc.length < sizeLine ∧ Nx (upd H4 D (.lst (acc ++ [y]))) else Nx H3) := by
  have hlen : (sgns z).length = z.cps.size := by simp [sgns]
  refine ⟨fun k mm H' => mm = z.cps.size - k ∧ k ≤ z.cps.size ∧ CompSt t D (((sgns z).take k).filterMap F) H', ⟨z.cps.size, by simp, Nat.zero_le _, t.newM D (.lst []) (.lst []) hD ⟨[], upd_same, .nil⟩, rfl, Same.refl _, rfl⟩, ?_⟩
  rintro k mm H' ⟨rfl, hk, u, rfl, g2, w⟩
  by_cases hlt : k < z.cps.size
  · refine .inr ⟨hlt, CompSt t D (((sgns z).take (k + 1)).filterMap F), fun H' q => ⟨z.cps.size - (k + 1), by omega, rfl, hlt, q⟩, ?_⟩
    rintro x H3 ⟨rfl, c, hc, rfl⟩
    have ed : (sgns z)[k]? = some (.str ⟨#[c]⟩) := by simp [sgns]; simpa using hc
    refine ⟨wipe_one σ i _, ?_⟩
    rw [fm_take ed]
    have hle : MuLe t.m u.m := by
      rw [w]
      exact (MuLe.refl _).up (t.mfree hD)
    exact comp_turn (hs.mono g) g2 w (Nat.le_trans (fm_len _ _ _) (by rw [hlen]; exact hl)) (.str _) (h u.m hle _ (List.mem_of_getElem? ed))
  · have e : k = z.cps.size := by omega
    subst e
    rw [← hlen, List.take_length] at w
    exact .inl ⟨Nat.le_refl _, lc_end kq g hD g2 w p⟩
theorem e_lcS {i : Nat} {n : Str} {sc : Scope} (F : PyData → Option PyData) (hc : X.calm = true) (hN : X.N.Nodup) (h : Ee X Ω iter δ m fun x m1 => ∃ z, x = .dat (.str z) ∧ z.length ≤ 1000000 ∧ (∀ m', MuLe m1 m' → ∀ d, d ∈ sgns z → Item X sc ifs elt (δ.set i (some (.dat d))) m' (F d)) ∧ P (.dat (.list ((sgns z).filterMap F))) m1)
    (ok : BlkOk X.N X.env.scope sc [(n, i)]) (hi : X.N[i]? = some n) (hx : ∀ s H C cl fp, Loc (blkX X sc s H C cl fp).env.scope n := by first | exact fun _ _ _ _ _ => .inl rfl | exact fun _ _ _ _ _ => .inr rfl) (hf : ∀ s H C cl fp, (blkX X sc s H C cl fp).fn n = true ∨ (blkX X sc s H C cl fp).env.scope.names.lookup n = some .local := by first | exact fun _ _ _ _ _ => .inr rfl | exact fun _ _ _ _ _ => .inl rfl) (hset : ∀ x, foldedSetIterable iter X.env x = pure x := by intro _; rfl) :
    Ee X Ω (.ListComp elt [⟨.Name n p1, iter, ifs, 0⟩] sc pos) δ m P :=
  Ee.of (pe_lc (own := [(n, i)]) (g := gName i) hc hN (pi_str wE.pe) ok (fun s H C cl fp => pg_name hN hi (hx s H C cl fp) (hf s H C cl fp)) (wIfs.pts ifs) wEb.pe hset) fun s σ Q hm hs kq => h s σ _ hm hs fun x v t ⟨z, ex, hl, hit, p⟩ g r => by
    subst ex
    exact ⟨z, av_str r, fun D hD => lc_readS hs.sl kq g hl hD hit p⟩
end
end QQ
set_option maxHeartbeats 4000000
namespace QQ
open PySem PySem.Spec PyProof.Rows L2
/-! ## exceptions whose context is told -/
section
variable {P : Program} {w : World} {K : PySem.W.Frag} {mg : Str → Option Value} {base : Heap}
theorem passZ {X : Cx} : Passes (L2N.CX X.prog X.w) X (fun _ _ _ => False) := by
  intro _ _ _ _ _ _ _ h
  obtain ⟨_, _, _, _, _, h1, h2, h3, h4, h5, h6, h7, z⟩ := h
  exact z.elim
theorem fun_okN {x qual : Str} {st : Stmt} {f : Addr} {fd : FuncData} {N ps : List Str} {k : Nat} {sp : Sp} (F : Fun K x qual st f fd) (S : FnScope N ps (defScope st)) (ln : ∀ vs H Q E, sp vs H Q E → vs.length = ps.length)
    (bd : ∀ (cdv : Value) (A : Around) (outer : List Env) (s : Shared) (H : Hp) (vs : List V) (Q : VK) (E : XK), Room k (A.deeper (envOfC qual (defScope st) s.heap.objs.size f cdv)) → sp vs H Q E →
      ∃ t, PSs (cxOf (L2N.CX P w) P w K mg base N qual (defScope st) f cdv A outer s H E) (defBody st) t ∧ t { nx := fun _ H' => Q .non H', rt := Q } (L2.start N vs) H) : FnOk P w K mg base (L2N.CX P w) (k + 1) f fd ps sp := by
  obtain ⟨y1, y2, y3, y4, y5, y6, y7, y8, y9, rfl, l1, l2⟩ := F.ex
  exact fn_of l1 l2 S ln fun A outer s H vs Q E hr hs => bd y7 A outer s H vs Q E hr hs
/-- a def called while an exception is handled -/
theorem fun_okH {x qual : Str} {st : Stmt} {f : Addr} {fd : FuncData} {N ps : List Str} {k : Nat} {sp : Sp} (F : Fun K x qual st f fd) (S : FnScope N ps (defScope st)) (ln : ∀ vs H Q E, sp vs H Q E → vs.length = ps.length)
    (bd : ∀ (cdv : Value) (A : Around) (outer : List Env) (s : Shared) (H : Hp) (vs : List V) (Q : VK) (E : XK) (q : Addr × Obj), L2H.Hot1 A q → L2H.RoomH k (A.deeper (envOfC qual (defScope st) s.heap.objs.size f cdv)) → sp vs H Q E →
      ∃ t, PSs (L2H.cxH (L2N.CX P w) P w K mg base N qual (defScope st) f cdv A outer s H E q) (defBody st) t ∧ t { nx := fun _ H' => Q .non H', rt := Q } (L2.start N vs) H) : L2H.FnH P w K mg base (L2N.CX P w) (k + 1) f fd ps sp := by
  obtain ⟨y1, y2, y3, y4, y5, y6, y7, y8, y9, rfl, l1, l2⟩ := F.ex
  exact L2H.fn_ofH l1 l2 S ln fun A outer s H vs Q E q hot hr hs => bd y7 A outer s H vs Q E q hot hr hs
/-- C(e ..), C an own exception class with its own __init__; nothing is handled -/
theorem mk_oexN {X : Cx} {CX : CXT} {x : Str} {C g : Addr} {k : Nat} {fd : FuncData} {ps : List Str} {sp : Sp} {e : Expr} {es : List Expr} {ta : TA} {p pos : Pos} (T : OexC X.K C) (i1 : PySem.W.findIn X.K (.ref C) "__init__" = some (some (.ref g))) (i2 : PySem.W.typeIn X.K (.ref g) = some (.type "function"))
    (G : FnOk X.prog X.w X.K X.mg X.base CX k g fd ps sp) (rm : Room (k + 1) X.A) (bi : Binds X.K fd ps []) (pz : Passes CX X (fun _ _ _ => False)) (gl : Gl X x) (nm : X.mg x = some (.ref C)) (pa : PA X (e :: es) ta) (db : (x == ("__debug__" : Str)) = false)
    (s1 : starEach (e :: es) X.env = (false, eval e X.env) :: starEach es X.env) (s2 : (backTo pos (starEach es X.env)).any (·.1) = false) : L2N.PMk X (.Call (.Name x p) (e :: es) [] pos) (tMkO C sp [] ta) := by
  intro pins s σ H Q I w0
  obtain ⟨n1, n2, n3, n4, n5, n6, n7, n8, n9, n10, n11, n12, n13, n14, n15, oC, oB⟩ := T.cls
  refine wpAny_Call_Name_kw (ld_glob I gl nm ?_ db)
  refine PySem.W.callWith_K (h₀ := X.base) I.ok.mod.kin T.kC (thn (pa.run pos pins s σ H _ I w0) fun us sa ⟨vs, Ha, Ia, ra, lz, qa⟩ => ⟨Ia.kIn, ?_⟩) s1 s2
  show wpAny _ _ (call (.ref C) us) _ _ _
  obtain ⟨hh, gg, dr, tk, ox⟩ := sa
  have le1 : hh.objs.size ≤ hh.objs.size + 1 := by omega
  have fr : Ha (hh.objs.size + 1) = none := Ia.hok.fresh le1
  have qb := qa _ fr
  rw [List.append_nil] at qb
  have kp : ∀ b o, hh.get? b = some o → ((hh.push (PySem.W.kdv_tup us)).push (PySem.HandSPX.excO C hh.objs.size)).get? b = some o := by
    intro b o z
    exact Heap.get?_push_of_some _ (Heap.get?_push_of_some _ z)
  have gt : ((hh.push (PySem.W.kdv_tup us)).push (PySem.HandSPX.excO C hh.objs.size)).get? (hh.objs.size + 1) = some (PySem.HandSPX.excO C hh.objs.size) := by
    heap_get
  have Ib := Ia.laid (t' := tk) (a := hh.objs.size + 1) (o := exo (hh.objs.size + 1) C none) (h' := (hh.push (PySem.W.kdv_tup us)).push (PySem.HandSPX.excO C hh.objs.size)) kp le1 (exo_ok gt)
  have rb : Vals (V.ref (hh.objs.size + 1) :: vs) (Value.ref (hh.objs.size + 1) :: us) := .cons rfl ra
  have ln : (Value.ref (hh.objs.size + 1) :: us).length = ps.length := by
    rw [← Paired.length rb]
    exact G.len _ _ _ _ qb
  have lu : us.length ≤ sizeLine := by
    have z := Paired.length ra
    rw [sizeLine_eq]
    omega
  have bb := bi _ (Value.ref (hh.objs.size + 1) :: us) Ib.kIn (by rw [List.append_nil]; exact ln)
  rw [List.append_nil] at bb
  refine wpAny_call (PySem.HandSPX.call_own F.excBase_ValueError (fun Y => PySem.HandSPX.refsVE_contains Y n5 oB) (Ia.kIn _ _ oC) (PySem.W.looks_findIn Ia.kIn i1) (fun me => PySem.W.bind_fn Ia.kIn me i2) lu (codeAny_mono (G.run _ X.stack _ _ ⟨Value.ref (hh.objs.size + 1) :: us, []⟩ (Value.ref (hh.objs.size + 1) :: us) _ _ (fun _ _ _ => False) (rm.make C us []) (Ib.env0.make C us []) bb rb qb) fun r sb w1 => ?_))
  match r, w1 with
  | .error er, w1 => exact pz pins σ _ _ er sb Ib w1
  | .ok .next, w1 => exact False.elim w1
  | .ok .brk, w1 => exact False.elim w1
  | .ok .cont, w1 => exact False.elim w1
  | .ok (.ret u), w1 =>
    obtain ⟨v, Hb, b1, b2, b3, b4, rv, ev, d, fs, ea, ed, dn, qc⟩ := w1
    subst ev
    obtain ⟨hb, gb, db, tb, ob⟩ := sb
    obtain ⟨t0, Gh, J, kG, ge, oe, na⟩ := mk_end0 (d2 := db) (t2 := tb) Ia le1 kp b3 b4 b1 b2 ea ed dn
    exact ⟨rv, hh.objs.size + 1, _, _, ⟨Gh, gb, db, tb, ob⟩, _, .ref C, some d, rfl, J, kG, ge, oe, ⟨rfl, rfl, by intro vs hv; cases hv; rfl⟩, rfl, rfl, na, rfl, b2, raises_own T.exC T.tyC, qc⟩
end
/-! ## defs -/
/-- a promise: the arguments, the own objects, what is wanted behind, of exceptions -/
abbrev XP := Addr → Option (List (Str × PyData)) → Mu → Prop
abbrev FSp := List AV → Mu → (AV → Mu → Prop) → XP → Prop
def spOf (K : PySem.W.Frag) (S : FSp) : Sp := fun vs H Q E => ∃ (s : Wd K) (as : List AV) (P : AV → Mu → Prop) (EP : XP), s.H = H ∧ Paired (Av K s.G) vs as ∧ S as s.m P EP ∧ K1 K s P Q ∧
  ∀ C fs d (t : Wd K), EP C fs t.m → Same s.G t.G → DRep K t.G d fs → E (.ref C) d t.H
/-- the slots at the entry -/
def st0 (N : List Str) (as : List AV) : Dl := as.map some ++ List.replicate (N.length - as.length) none
theorem st0_ok {K : PySem.W.Frag} {G : Hp} {N : List Str} {vs : List V} {as : List AV} (h : Paired (Av K G) vs as) : Sl K G (L2.start N vs) (st0 N as) := by
  have hl := Paired.length h
  refine ⟨by unfold L2.start st0; simp [hl], fun i a e => ?_⟩
  unfold st0 at e
  by_cases hi : i < as.length
  · rw [List.getElem?_append_left (by simpa using hi), List.getElem?_map] at e
    cases q : as[i]? with
    | none => rw [q] at e; cases e
    | some b =>
      rw [q] at e
      cases e
      obtain ⟨v, e1, e2⟩ := Paired.get i _ h q
      refine ⟨v, ?_, e2⟩
      unfold L2.start
      rw [List.getElem?_append_left (by simp; omega), List.getElem?_map, e1] <;> rfl
  · rw [List.getElem?_append_right (by simpa using hi), List.getElem?_replicate] at e
    split at e <;> cases e
/-- a def's context -/
abbrev bodyX (P : Program) (w : World) (K : PySem.W.Frag) (mg : Str → Option Value) (base : Heap) (N : List Str) (qual : Str) (sc : Scope) (f : Addr) (cdv : Value) (A : Around) (outer : List Env) (s : Shared) (H : Hp) (E : XK) : Cx := cxOf (L2N.CX P w) P w K mg base N qual sc f cdv A outer s H E
def omX (EP : XP) : Om := fun C fs _ m => EP C fs m
section
variable {P : Program} {w : World} {K : PySem.W.Frag} {mg : Str → Option Value} {base : Heap}
theorem def_ok {x qual : Str} {st : Stmt} {f : Addr} {fd : FuncData} {N ps : List Str} {k : Nat} {S : FSp} (F : Fun K x qual st f fd) (sc : FnScope N ps (defScope st)) (ar : ∀ as m P EP, S as m P EP → as.length = ps.length)
    (body : ∀ (cdv : Value) (A : Around) (outer : List Env) (s : Shared) (H : Hp) (E : XK), Room k (bodyX P w K mg base N qual (defScope st) f cdv A outer s H E).A → ∀ as m (Pq : AV → Mu → Prop) (EP : XP), S as m Pq EP →
      Eb (bodyX P w K mg base N qual (defScope st) f cdv A outer s H E) (omX EP) (defBody st) (st0 N as) m { nx := fun _ m1 => Pq (.dat .none) m1, rt := Pq }) :
    FnOk P w K mg base (L2N.CX P w) (k + 1) f fd ps (spOf K S) := by
  refine fun_okN F sc (fun vs H Q E ⟨s, as, Pq, EP, _, hv, hS, _⟩ => (Paired.length hv).trans (ar _ _ _ _ hS)) fun cdv A outer s H vs Q E hr h => ⟨_, wB.pss, ?_⟩
  obtain ⟨t, as, Pq, EP, rfl, hv, hS, kq, kx⟩ := h
  refine body cdv A outer s t.H E hr as t.m Pq EP hS t (L2.start N vs) _ rfl ⟨st0_ok hv, fun cls d _ H => E cls d H, L2N.takes_of rfl rfl rfl rfl, fun C fs d δ' σ' u o g _ dr => kx C fs d u o g dr⟩ ?_
  exact ⟨fun δ σ u p g r => kq (.dat .none) .non u p g Rp.non, fun a v u p g r => kq a v u p g r, fun _ _ _ z => z.elim, fun _ _ _ z => z.elim⟩
/-- a def that stands by a name of the module and keeps a promise -/
structure Df (P : Program) (w : World) (K : PySem.W.Frag) (mg : Str → Option Value) (base : Heap) (k : Nat) (x : Str) (ps : List Str) (S : FSp) : Prop where
  ex : ∃ f fd, mg x = some (.ref f) ∧ PySem.W.keepIn K (.ref f) = true ∧ Binds K fd ps [] ∧ FnOk P w K mg base (L2N.CX P w) k f fd ps (spOf K S)
/-- a def of the text by its name -/
structure Dn (K : PySem.W.Frag) (mg : Str → Option Value) (x : Str) (st : Stmt) (ps : List Str) (f : Addr) (fd : FuncData) : Prop where
  fn : Fun K x x st f fd
  nm : mg x = some (.ref f)
  bd : Binds K fd ps []
theorem Df.mk' {x : Str} {st : Stmt} {f : Addr} {fd : FuncData} {N ps : List Str} {k : Nat} {S : FSp} (D : Dn K mg x st ps f fd) (sc : FnScope N ps (defScope st)) (ar : ∀ as m P EP, S as m P EP → as.length = ps.length)
    (body : ∀ (cdv : Value) (A : Around) (outer : List Env) (s : Shared) (H : Hp) (E : XK), Room k (bodyX P w K mg base N x (defScope st) f cdv A outer s H E).A → (bodyX P w K mg base N x (defScope st) f cdv A outer s H E).N.Nodup → (bodyX P w K mg base N x (defScope st) f cdv A outer s H E).calm = true →
      PassesOwn (model (bodyX P w K mg base N x (defScope st) f cdv A outer s H E).prog (bodyX P w K mg base N x (defScope st) f cdv A outer s H E).w) (bodyX P w K mg base N x (defScope st) f cdv A outer s H E).A (bodyX P w K mg base N x (defScope st) f cdv A outer s H E).env (bodyX P w K mg base N x (defScope st) f cdv A outer s H E).xe →
      ∀ as m (Pq : AV → Mu → Prop) (EP : XP), S as m Pq EP →
      Eb (bodyX P w K mg base N x (defScope st) f cdv A outer s H E) (omX EP) (defBody st) (st0 N as) m { nx := fun _ m1 => Pq (.dat .none) m1, rt := Pq }) : Df P w K mg base (k + 1) x ps S :=
  ⟨f, fd, D.nm, D.fn.kp, D.bd, def_ok D.fn sc ar fun cdv A outer s H E hr => body cdv A outer s H E hr sc.nd rfl (passes_of rfl)⟩
theorem Df.mono {x : Str} {ps : List Str} {j k : Nat} {S : FSp} (F : Df P w K mg base j x ps S) (h : j ≤ k) : Df P w K mg base k x ps S := by
  obtain ⟨f, fd, h1, h2, h3, h4⟩ := F.ex
  exact ⟨f, fd, h1, h2, h3, h4.mono h⟩
theorem Df.imp {x : Str} {ps : List Str} {k : Nat} {S S' : FSp} (F : Df P w K mg base k x ps S) (h : ∀ as m P EP, S' as m P EP → S as m P EP) : Df P w K mg base k x ps S' := by
  obtain ⟨f, fd, h1, h2, h3, h4⟩ := F.ex
  exact ⟨f, fd, h1, h2, h3, h4.imp fun vs H Q E ⟨s, as, Pq, EP, a, b, c, d⟩ => ⟨s, as, Pq, EP, a, b, h _ _ _ _ c, d⟩⟩
end
section
variable {X : Cx} {Ω : Om} {δ : Dl} {m : Mu} {P : AV → Mu → Prop} {nx : Dl → Mu → Prop} {rt : AV → Mu → Prop} {bk ct : Dl → Mu → Prop} {pos p p2 apos : Pos} {a b c e o : Expr} {es : List Expr}
theorem e_call {k : Nat} {x : Str} {ps : List Str} {S : FSp} (F : Df X.prog X.w X.K X.mg X.base k x ps S) (hr : Room k X.A) (h : Ea X Ω (e :: es) δ m fun as m1 => S as m1 P fun C fs m2 => Ω C fs δ m2) (hg : Gl X x := by rfl)
    (hdb : (x == ("__debug__" : Str)) = false := by decide) (he : starEach (e :: es) X.env = (false, eval e X.env) :: starEach es X.env := by rfl) (hpl : (backTo pos (starEach es X.env)).any (·.1) = false := by rfl) : Ee X Ω (.Call (.Name x p) (e :: es) [] pos) δ m P := by
  refine ⟨fun s σ Q hm hs kq pins sh I => ?_⟩
  obtain ⟨f, fd, h1, h2, h3, h4⟩ := F.ex
  obtain ⟨W, tk, hW⟩ := hs.kx
  refine (pe_callS h4 hr hg h1 h2 h3 (fun σ => L2N.passAt tk σ) wA.pa hdb he hpl).run pins sh σ s.H Q I ?_
  refine h s σ _ hm hs fun as vs t p1 g1 r1 => ?_
  exact ⟨t, as, P, _, rfl, r1, p1, kq.back g1, fun C fs d u o g dr => hW C fs d δ σ u o (g1.trans g) (hs.sl.mono (g1.trans g)) dr⟩
/-! ## raise -/
/-- an expression that makes an exception -/
def Em (X : Cx) (Ω : Om) (e : Expr) (δ : Dl) (m : Mu) (R : XP) : Prop := ∃ t, L2N.PMk X e t ∧ ∀ (s : Wd X.K) (σ : L2.St) (Q : XK), s.m = m → Sk X Ω s.G σ δ → (∀ C fs d (u : Wd X.K), R C fs u.m → Same s.G u.G → DRep X.K u.G d fs → Q (.ref C) d u.H) → t σ s.H Q
theorem s_raise (hc : X.calm = true) (h : Em X Ω e δ m fun C fs m1 => Ω C fs δ m1) : Es X Ω (.Raise (some e) none pos) δ m ⟨nx, rt, bk, ct⟩ := by
  refine ⟨fun s σ D hm hs k pins sh I => ?_⟩
  obtain ⟨t, ht, hk⟩ := h
  obtain ⟨W, tk, hW⟩ := hs.kx
  refine (L2N.ps_raise hc tk ht).run pins sh σ s.H D I ?_
  exact hk s σ _ hm hs fun C fs d u r g dr => hW C fs d δ σ u r g (hs.sl.mono g) dr
/-- what the written part says of an own exception class without __init__ -/
structure ExPlain (K : PySem.W.Frag) (mg : Str → Option Value) (x : Str) (C : Addr) : Prop where
  nm : mg x = some (.ref C)
  ex : PySem.W.excIn K C [.type "ValueError", .type "Exception", .type "BaseException", .type "object"] "ValueError.__new__" = true
  kp : PySem.W.keepIn K (.ref C) = true
  sub : PySem.W.subIn K (.ref C) (.type "BaseException") = some true
  ty : PySem.W.typeIn K (.ref C) = some (.type "type")
theorem em_plain {x t : Str} {C : Addr} {R : XP} {j : Nat} (T : ExPlain X.K X.mg x C) (h : R C none m) (hg : Gl X x := by rfl) (hdb : (x == ("__debug__" : Str)) = false := by decide) : Em X Ω (.Call (.Name x p) [.Constant (.str t) j p2] [] pos) δ m R :=
  ⟨_, L2N.pmk_own PySem.F.excBase_ValueError T.ex T.nm T.kp (raises_own T.sub T.ty) hg hdb, fun s σ Q hm hs kr => kr C none none s (hm ▸ h) (Same.refl _) trivial⟩
/-- of one with an __init__ that stores its one argument -/
structure ExOne (P : Program) (w : World) (K : PySem.W.Frag) (mg : Str → Option Value) (base : Heap) (x f : Str) (C : Addr) : Prop where
  nm : mg x = some (.ref C)
  ox : OexC K C
  ini : ∃ fI fd, PySem.W.findIn K (.ref C) "__init__" = some (some (.ref fI)) ∧ PySem.W.typeIn K (.ref fI) = some (.type "function") ∧ Binds K fd ["self", f] [] ∧
    FnOk P w K mg base (L2N.CX P w) 1 fI fd ["self", f] (fun vs H Q _ => ∃ (a : Addr) (y : V), vs = [.ref a, y] ∧ H a = some (exo a C none) ∧ ∀ dx, H dx = none → dx ≠ a → Q .non (upd (upd H dx (exd dx [(f, y)])) a (exo a C (some dx))))
  no : PySem.W.findIn K (.ref C) f = some none
theorem em_one {x f : Str} {C : Addr} {R : XP} (T : ExOne X.prog X.w X.K X.mg X.base x f C) (hr : Room 2 X.A) (h : Ee X Ω e δ m fun y m1 => ∃ z, y = .dat z ∧ R C (some [(f, z)]) m1) (hg : Gl X x := by rfl) (hdb : (x == ("__debug__" : Str)) = false := by decide)
    (he : starEach [e] X.env = (false, eval e X.env) :: starEach [] X.env := by rfl) (hpl : (backTo pos (starEach [] X.env)).any (·.1) = false := by rfl) : Em X Ω (.Call (.Name x p) [e] [] pos) δ m R := by
  obtain ⟨fI, fd, i1, i2, i3, i4⟩ := T.ini
  refine ⟨_, mk_oexN T.ox i1 i2 i4 hr i3 passZ hg T.nm (pa_cons wE.pe pa_nil he) hdb he hpl, fun s σ Q hm hs kr => ?_⟩
  refine h s σ _ hm hs fun y vy t ⟨z, ey, p1⟩ g1 r1 => ⟨by show 1 ≤ 1000; decide, fun a ha => ?_⟩
  refine ⟨a, vy, rfl, upd_same, fun dx hdx hne => ⟨rfl, dx, [(f, vy)], upd_same, ?_, ?_, ?_⟩⟩
  · rw [upd_ne hne, upd_same]
  · rw [upd_ne hne] at hdx
    exact hdx
  · rw [upd_ne hne] at hdx
    -- the state with the exception's dict as a datum
    have eH : upd (del (upd (upd (upd t.H a (exo a C none)) dx (exd dx [(f, vy)])) a (exo a C (some dx))) a) dx (.xd [(f, vy)]) = upd t.H dx (.xd [(f, vy)]) := by
      funext b
      by_cases hb : b = dx
      · subst hb; rw [upd_same, upd_same]
      · rw [upd_ne hb, upd_ne hb]
        by_cases hba : b = a
        · subst hba; rw [del_same, ha]
        · rw [del_ne hba, upd_ne hba, upd_ne hb, upd_ne hba]
    show Q (.ref C) (some dx) _
    have q := kr C (some [(f, z)]) (some dx) (t.newG dx (.xd [(f, vy)]) hdx) p1 (g1.trans (t.newG_same _ _ _)) ⟨_, upd_same, .cons ⟨rfl, Rp.mono (t.newG_same _ _ _) _ _ (by subst ey; exact r1)⟩ .nil⟩
    have e2 : (t.newG dx (.xd [(f, vy)]) hdx).H = upd t.H dx (.xd [(f, vy)]) := rfl
    rw [e2, ← eH] at q
    exact q
end
/-- the body of such an __init__ -/
theorem init1_ok {P : Program} {w : World} {K : PySem.W.Frag} {mg : Str → Option Value} {base : Heap} {qual f : Str} {st : Stmt} {fI C : Addr} {fd : FuncData} {p1 p2 p3 p4 : Pos} (F : Fun K "__init__" qual st fI fd) (sc : FnScope ["self", f] ["self", f] (defScope st)) (T : OexC K C) (no : PySem.W.findIn K (.ref C) f = some none)
    (hb : defBody st = [.Assign [.Attribute (.Name "self" p1) f p2] (.Name f p3) p4])
    (h1 : ∀ X : Cx, X.env.scope = defScope st → Vis X.env.scope "self" ∧ Vis X.env.scope f) (hd1 : (f == ("__debug__" : Str)) = false := by decide) (hd2 : (f == ("__classdict__" : Str)) = false := by decide)
    (hs : ∀ X : Cx, X.env.scope = defScope st → swapsWith (.Name f p3) (some (.Attribute (.Name "self" p1) f p2)) p4.line X.env = pure false) :
    FnOk P w K mg base (L2N.CX P w) 1 fI fd ["self", f] (fun vs H Q _ => ∃ (a : Addr) (y : V), vs = [.ref a, y] ∧ H a = some (exo a C none) ∧ ∀ dx, H dx = none → dx ≠ a → Q .non (upd (upd H dx (exd dx [(f, y)])) a (exo a C (some dx)))) := by
  refine fun_okN F sc (fun vs H Q E ⟨a, y, e, _⟩ => by rw [e]; rfl) fun cdv A outer s H vs Q E hr h => ?_
  obtain ⟨a, y, rfl, ha, k⟩ := h
  rw [hb]
  refine ⟨_, pss_one (ps_ost (pe_var (i := 0) rfl (h1 _ rfl).1) (pe_var (i := 1) rfl (h1 _ rfl).2 hd1 hd2) (hs _ rfl)), ?_⟩
  refine ⟨y, rfl, .ref a, rfl, a, C, rfl, T, no, .inl ⟨ha, fun dx n1 n2 => k dx n1 n2⟩⟩
end QQ
namespace QQ
open PySem PySem.Spec PyProof.Rows L2
section
variable {X : Cx} {Ω : Om} {δ : Dl} {m : Mu} {K : PySem.W.Frag}
theorem id_b {st : List Stmt} {E : En} (h : Eb X Ω st δ m E) : Eb X Ω st δ m E := h
theorem id_s {st : Stmt} {E : En} (h : Es X Ω st δ m E) : Es X Ω st δ m E := h
theorem id_e {e : Expr} {P : AV → Mu → Prop} (h : Ee X Ω e δ m P) : Ee X Ω e δ m P := h
theorem id_a {e : List Expr} {P : List AV → Mu → Prop} (h : Ea X Ω e δ m P) : Ea X Ω e δ m P := h
theorem id_t {e : Expr} {P : Bool → Mu → Prop} (h : Et X Ω e δ m P) : Et X Ω e δ m P := h
theorem id_w {e : Expr} {P : Bool → Mu → Prop} (h : Ew X Ω e δ m P) : Ew X Ω e δ m P := h
theorem id_o2 {r : R2} {x y : AV} {P : AV → Mu → Prop} (h : O2 K r x y m P) : O2 K r x y m P := h
theorem id_o1 {r : V → Hp → VK → Prop} {x : AV} {P : AV → Mu → Prop} (h : O1 K r x m P) : O1 K r x m P := h
theorem id_oa {r : List V → Hp → VK → Prop} {x : List AV} {P : AV → Mu → Prop} (h : OA K r x m P) : OA K r x m P := h
theorem id_os {x : AV} {l u : Option Int} {P : AV → Mu → Prop} (h : OS K x l u m P) : OS K x l u m P := h
theorem id_p {e : Option Expr} {P : Option Int → Mu → Prop} (h : Eo X Ω e δ m P) : Eo X Ω e δ m P := h
theorem id_g {tg : Expr} {x : AV} {N : Dl → Mu → Prop} (h : Eg X Ω tg x δ m N) : Eg X Ω tg x δ m N := h
theorem id_gs {tgs : List Expr} {xs : List AV} {N : Dl → Mu → Prop} (h : Egs X Ω tgs xs δ m N) : Egs X Ω tgs xs δ m N := h
end
end QQ
namespace QQ
open PySem PySem.Spec PyProof.Rows L2
section
variable {X : Cx} {Ω : Om} {δ : Dl} {m : Mu} {P : AV → Mu → Prop} {PB : Bool → Mu → Prop} {PL : List AV → Mu → Prop} {a b e tg : Expr} {es : List Expr} {pos pos2 : Pos} {nx : Dl → Mu → Prop} {rt : AV → Mu → Prop} {bk ct : Dl → Mu → Prop} {x : Str} {av : AV} {N : Dl → Mu → Prop} {tgs : List Expr} {avs : List AV}
theorem id_name (x : Str) (h : Ee X Ω (.Name x pos) δ m P) : Ee X Ω (.Name x pos) δ m P := h
theorem id_const {c : Const} {j : Nat} (h : Ee X Ω (.Constant c j pos) δ m P) : Ee X Ω (.Constant c j pos) δ m P := h
theorem id_bin (op : Operator) (h : Ee X Ω (.BinOp a op b pos) δ m P) : Ee X Ω (.BinOp a op b pos) δ m P := h
theorem id_cmp (op : CmpOp) (h : Ee X Ω (.Compare a [op] [b] pos) δ m P) : Ee X Ω (.Compare a [op] [b] pos) δ m P := h
theorem id_subs (h : Ee X Ω (.Subscript a b pos) δ m P) : Ee X Ω (.Subscript a b pos) δ m P := h
theorem id_un (op : UnaryOp) (h : Ee X Ω (.UnaryOp op a pos) δ m P) : Ee X Ω (.UnaryOp op a pos) δ m P := h
theorem id_bool {op : BoolOp} (h : Ee X Ω (.BoolOp op es pos) δ m P) : Ee X Ω (.BoolOp op es pos) δ m P := h
theorem id_calln (x : Str) (h : Ee X Ω (.Call (.Name x pos2) es [] pos) δ m P) : Ee X Ω (.Call (.Name x pos2) es [] pos) δ m P := h
theorem id_callm (x : Str) (h : Ee X Ω (.Call (.Attribute a x pos2) es [] pos) δ m P) : Ee X Ω (.Call (.Attribute a x pos2) es [] pos) δ m P := h
theorem id_tcmp (op : CmpOp) (h : Et X Ω (.Compare a [op] [b] pos) δ m PB) : Et X Ω (.Compare a [op] [b] pos) δ m PB := h
theorem id_tcmp2 {ops : List CmpOp} {bs : List Expr} (h : Et X Ω (.Compare a ops bs pos) δ m PB) : Et X Ω (.Compare a ops bs pos) δ m PB := h
theorem id_tbool {op : BoolOp} (h : Et X Ω (.BoolOp op es pos) δ m PB) : Et X Ω (.BoolOp op es pos) δ m PB := h
theorem id_tnot (h : Et X Ω (.UnaryOp .Not a pos) δ m PB) : Et X Ω (.UnaryOp .Not a pos) δ m PB := h
theorem id_sset (x : Str) (h : Es X Ω (.Assign [.Name x pos2] e pos) δ m ⟨nx, rt, bk, ct⟩) : Es X Ω (.Assign [.Name x pos2] e pos) δ m ⟨nx, rt, bk, ct⟩ := h
theorem id_sasg (h : Es X Ω (.Assign [tg] e pos) δ m ⟨nx, rt, bk, ct⟩) : Es X Ω (.Assign [tg] e pos) δ m ⟨nx, rt, bk, ct⟩ := h
theorem id_sret (h : Es X Ω (.Return (some e) pos) δ m ⟨nx, rt, bk, ct⟩) : Es X Ω (.Return (some e) pos) δ m ⟨nx, rt, bk, ct⟩ := h
theorem id_sif {c : Expr} {A B : List Stmt} (h : Es X Ω (.If c A B pos) δ m ⟨nx, rt, bk, ct⟩) : Es X Ω (.If c A B pos) δ m ⟨nx, rt, bk, ct⟩ := h
theorem id_sexpr (h : Es X Ω (.Expr e pos) δ m ⟨nx, rt, bk, ct⟩) : Es X Ω (.Expr e pos) δ m ⟨nx, rt, bk, ct⟩ := h
theorem id_gname (x : Str) (h : Eg X Ω (.Name x pos) av δ m N) : Eg X Ω (.Name x pos) av δ m N := h
theorem id_gsname (x : Str) (h : Egs X Ω (.Name x pos :: tgs) avs δ m N) : Egs X Ω (.Name x pos :: tgs) avs δ m N := h
end
end QQ
set_option maxHeartbeats 4000000
namespace QQ
open PySem PySem.Spec PyProof.Rows L2
/-! ## try: body, except x as n: suite -/
section
variable {X : Cx} {Ω : Om} {δ : Dl} {m : Mu} {P : AV → Mu → Prop} {nx : Dl → Mu → Prop} {rt : AV → Mu → Prop} {bk ct : Dl → Mu → Prop} {pos pos' np p p2 : Pos} {a b c e o : Expr} {es : List Expr} {body suite : List Stmt} {b₀ : Stmt}
/-- the wish of the body's exceptions -/
def omTry (X : Cx) (cv : Value) (i : Nat) (suite : List Stmt) (Ω : Om) (E : En) : Om := fun C fs δ m => ∃ b, PySem.W.exmOne X.K (.ref C) cv = some b ∧
  (b = true → ∀ (a : Addr) (oe : Obj) (d : Option Addr) (pn : List (Addr × Obj)), L2N.Zn (.ref C) d oe → (∃ vs, oe.data = .fields vs) →
    Eb (X.suite a ((a, oe) :: pn)) om0 suite (δ.set i (some (.ex a C d fs))) m ⟨fun δ m => E.nx (δ.set i none) m, E.rt, fun δ m => E.bk (δ.set i none) m, fun δ m => E.ct (δ.set i none) m⟩) ∧
  (b = false → Ω C fs δ m)
theorem Sl.gone {K : PySem.W.Frag} {G : Hp} {σ : L2.St} {δ : Dl} (h : Sl K G σ δ) (i : Nat) : Sl K G (σ.set i none) (δ.set i none) := by
  refine ⟨by simp [h.len], fun j b q => ?_⟩
  by_cases hj : i = j
  · subst hj
    by_cases hi : i < δ.length
    · rw [List.getElem?_set_self hi] at q
      cases q
    · rw [List.getElem?_eq_none (by simpa using hi)] at q; cases q
  · rw [List.getElem?_set_ne hj] at q ⊢
    exact h.at' j b q
theorem s_try {x n : Str} {cv : Value} (i : Nat) (hc : Names X x cv) (h : ∀ (pn : List (Addr × Obj)) (xe : Value → Shared → Prop), PassesOwn (model X.prog X.w) X.A X.env xe → Eb (X.tr pn xe) (omTry X cv i (b₀ :: suite) Ω ⟨nx, rt, bk, ct⟩) body δ m ⟨nx, rt, bk, ct⟩)
    (hN : X.N.Nodup) (hs : X.stack = X.env :: X.outer := by rfl) (hf : X.env.frame = some X.env.locals := by rfl) (hi : X.N[i]? = some n := by rfl) (hln : X.env.kindOf n = some .local := by rfl) :
    Es X Ω (.Try body [.ExceptHandler (some (.Name x np)) (some n) (b₀ :: suite) pos'] [] [] pos) δ m ⟨nx, rt, bk, ct⟩ := by
  refine ⟨fun s σ D hm hsl kq pins sh I => ?_⟩
  obtain ⟨W, tk, hW⟩ := hsl.kx
  refine (L2N.ps_try_as (tb := fun W D σ H => ∀ pn xe, L2N.Takes (X.tr pn xe) W → PassesOwn (model X.prog X.w) X.A X.env xe → wB (X.tr pn xe) body D σ H)
    (ts := fun a cls d D σ H => ∀ (oe : Obj) (pn : List (Addr × Obj)), L2N.Zn cls d oe → (∃ vs, oe.data = .fields vs) → wB (X.suite a ((a, oe) :: pn)) (b₀ :: suite) D σ H)
    hs hf hN hi hln hc tk (fun W pn xe tk po => ⟨fun pins s σ H D I h => h pn xe tk po pins s I⟩) (fun a oe cls d pn hz hd => ⟨fun pins s σ H D I h => h oe pn hz hd pins s I⟩)).run pins sh σ s.H D I ?_
  intro pn xe tk1 po
  refine (h pn xe po) s σ D hm ⟨hsl.sl, _, tk1, fun C fs d δ' σ' t o g sl dr => ?_⟩ kq
  obtain ⟨b, hb, hy, hn⟩ := o
  refine ⟨b, hb, fun e a ha oe pn hz hd => ?_, fun e => hW C fs d δ' σ' t (hn e) g sl dr⟩
  refine (hy e a oe d pn hz hd) t _ _ rfl ⟨sl.set (a := .ex a C d fs) ⟨rfl, dr⟩, _, takesZ, fun _ _ _ _ _ _ z => z.elim⟩ ?_
  exact ⟨fun δ σ u p g1 r => kq.nx _ _ u p (g.trans g1) (r.gone i), fun a v u p g1 r => kq.rt a v u p (g.trans g1) r, fun δ σ u p g1 r => kq.bk _ _ u p (g.trans g1) (r.gone i), fun δ σ u p g1 r => kq.ct _ _ u p (g.trans g1) (r.gone i)⟩
/-- err.f within the suite -/
theorem e_xf {ad C : Addr} {oe : Obj} {d : Option Addr} {pn : List (Addr × Obj)} {n : Str} {fs : Option (List (Str × PyData))} (T : XfC X.K C) (hno : PySem.W.findIn X.K (.ref C) n = some none) (hz : L2N.Zn (.ref C) d oe) (hf : ∃ vs, oe.data = .fields vs)
    (h : Ee (X.suite ad ((ad, oe) :: pn)) Ω e δ m fun y m1 => y = .ex ad C d fs ∧ ∃ gs v, fs = some gs ∧ gs.lookup n = some v ∧ P (.dat v) m1) (hb : attributeBase e n X.env (eval e X.env) = eval e X.env := by rfl) :
    Ee (X.suite ad ((ad, oe) :: pn)) Ω (.Attribute e n pos) δ m P := by
  refine ⟨fun s σ Q hm hs kq pins sh I => ?_⟩
  refine (pe_xf (X := X) (pos := pos) T hno hz.zc hf wE.pe hb).run pins sh σ s.H Q I ?_
  refine h s σ _ hm hs fun y v t ⟨ey, gs, w, e1, e2, p1⟩ g r => ?_
  subst ey
  subst e1
  obtain ⟨rfl, dr⟩ := r
  cases d with
  | none => exact dr.elim
  | some dd =>
    obtain ⟨hs', k1, k2⟩ := dr
    have lk : ∀ (gs : List (Str × PyData)) (hs' : List (Str × V)), Paired (fun (a : Str × V) (b : Str × PyData) => a.1 = b.1 ∧ Rp X.K t.G a.2 b.2) hs' gs → gs.lookup n = some w → ∃ v, hs'.lookup n = some v ∧ Rp X.K t.G v w := by
      intro gs
      induction gs with
      | nil => intro hs' _ z; cases z
      | cons g gs ih =>
        intro hs' pr z
        cases pr with
        | cons r1 r2 =>
          rename_i a as
          obtain ⟨gn, gv⟩ := g
          obtain ⟨an, av⟩ := a
          obtain ⟨e1, e2⟩ := r1
          dsimp only at e1 e2
          subst e1
          rw [List.lookup_cons] at z ⊢
          split at z
          · rename_i q
            cases z
            exact ⟨_, by simp [q], e2⟩
          · rename_i q
            obtain ⟨v, y1, y2⟩ := ih _ r2 z
            exact ⟨v, by simp [q, y1], y2⟩
    obtain ⟨v, y1, y2⟩ := lk gs hs' k2 e2
    exact ⟨rfl, rfl, dd, hs', v, rfl, t.ext _ _ k1, y1, kq (.dat w) v t p1 g y2⟩
/-! isinstance of the exception that a suite holds -/
def rIsX (K : PySem.W.Frag) (C a : Addr) (d : Option Addr) : List V → Hp → VK → Prop := fun xs H Q => ∃ (c : V) (cv : Value) (b : Bool), xs = [.ref a, c] ∧ (∀ u, RelV c u → u = cv) ∧ PySem.W.kitOne K (.ref C) cv = some b ∧ (∀ dd, d = some dd → ∃ fs, H dd = some (.xd fs)) ∧ Q (.bl b) H
theorem call_isX {ad C : Addr} {oe : Obj} {d : Option Addr} {pn : List (Addr × Obj)} (T : ExcC X.K C) (hz : L2N.Zn (.ref C) d oe) (hf : ∃ vs, oe.data = .fields vs) : CallR (X.suite ad ((ad, oe) :: pn)) (.builtin "isinstance") (rIsX X.K C ad d) := by
  intro pins s σ H xs us Q I r h
  obtain ⟨c, cv, b, rfl, hcv, e, hd, q⟩ := h
  cases r with
  | cons r1 rr =>
    cases rr with
    | cons r2 rr =>
      cases rr
      cases r1
      have ec := hcv _ r2
      subst ec
      obtain ⟨hget, _⟩ := I.pin (ad, oe) (List.mem_append.mpr (.inl List.mem_cons_self))
      obtain ⟨vs, hv⟩ := hf
      have hcl : (PySem.W.clsIn X.K C).isSome = true := by
        obtain ⟨cd, hc, _⟩ := PySem.W.any_some T.hd
        rw [hc]
        rfl
      have fin : ∀ od, PySem.W.InstAt s.heap ad oe C od → wpAny (model X.prog X.w) (X.suite ad ((ad, oe) :: pn)).A (call (.builtin "isinstance") [.ref ad, _]) (EP (X.suite ad ((ad, oe) :: pn)) pins σ Q) (X.suite ad ((ad, oe) :: pn)).xe s := fun od J =>
        PySem.W.kia_one (PySem.W.kitx_exc (od := od) hcl T.hg T.hk T.hs T.ha T.hn T.ht T.hm) I.kIn J e (fun z => nomatch z) fun tk => ⟨.bl b, H, I.kept (t' := tk) fun _ _ z => z, rfl, q⟩
      cases d with
      | none =>
        refine fin none ?_
        obtain ⟨oc, od, oda, osl⟩ := oe
        obtain ⟨h1, h2, _⟩ := hz
        dsimp only at h1 h2 hv
        subst h1 h2 hv
        exact ⟨hget, rfl, rfl, trivial⟩
      | some dd =>
        obtain ⟨fs, ea⟩ := hd dd rfl
        have hx : ObjOk X.prog X.w H s.heap dd (.xd fs) := I.hok dd _ ea
        obtain ⟨mA, hns, hr⟩ := hx
        obtain ⟨od, ho, hl⟩ := lookIn_ns hns
        refine fin (some od) ⟨hget, hz.1, by unfold PySem.W.notCls; rw [hv] <;> rfl, by rw [hz.2.1]; exact ho⟩
theorem isX_ad {K : PySem.W.Frag} {C ad : Addr} {d : Option Addr} {fs : Option (List (Str × PyData))} {y : AV} {cv : Value} {b : Bool} (hy : ∀ (G : Hp) v, Av K G v y → ∀ u, RelV v u → u = cv) (hk : PySem.W.kitOne K (.ref C) cv = some b) (h : P (.dat (.bool b)) m) : OA K (rIsX K C ad d) [.ex ad C d fs, y] m P := by
  refine ⟨fun s vs Q hm hv kq => ?_⟩
  cases hv with
  | cons r1 hv =>
    cases hv with
    | cons r2 hv =>
      cases hv
      obtain ⟨rfl, dr⟩ := r1
      refine ⟨_, cv, b, rfl, hy _ _ r2, hk, fun dd e => ?_, kq.val (hm ▸ h) (Rp.bl _)⟩
      subst e
      cases fs with
      | none => exact dr.elim
      | some fs =>
        obtain ⟨gs, z, _⟩ := dr
        exact ⟨gs, s.ext _ _ z⟩
/-- isinstance(e, T) within the suite -/
theorem e_isX {ad C : Addr} {oe : Obj} {d : Option Addr} {pn : List (Addr × Obj)} (T : ExcC X.K C) (hz : L2N.Zn (.ref C) d oe) (hf : ∃ vs, oe.data = .fields vs) (hm' : X.mg "isinstance" = none)
    (h : Ea (X.suite ad ((ad, oe) :: pn)) Ω (e :: es) δ m fun as m1 => OA X.K (rIsX X.K C ad d) as m1 P) (hg : Gl X "isinstance" := by rfl)
    (he : starEach (e :: es) X.env = (false, eval e X.env) :: starEach es X.env := by rfl) (hpl : (backTo pos (starEach es X.env)).any (·.1) = false := by rfl) :
    Ee (X.suite ad ((ad, oe) :: pn)) Ω (.Call (.Name "isinstance" p) (e :: es) [] pos) δ m P := e_callB (call_isX T hz hf) hm' h (by decide +kernel) hg (by decide) (by decide) he hpl
theorem o_isX_ty {K : PySem.W.Frag} {C ad : Addr} {d : Option Addr} {fs : Option (List (Str × PyData))} {n : String} {b : Bool} (hk : PySem.W.kitOne K (.ref C) (.type n) = some b) (h : P (.dat (.bool b)) m) : OA K (rIsX K C ad d) [.ex ad C d fs, .ty n] m P :=
  isX_ad (cv := .type n) (fun _ v (r : v = .ty n) u ru => by subst r; exact ru) hk h
theorem o_isX_cl {K : PySem.W.Frag} {C D ad : Addr} {d : Option Addr} {fs : Option (List (Str × PyData))} {b : Bool} (hk : PySem.W.kitOne K (.ref C) (.ref D) = some b) (h : P (.dat (.bool b)) m) : OA K (rIsX K C ad d) [.ex ad C d fs, .cl D] m P :=
  isX_ad (cv := .ref D) (fun _ v (r : v = .ref D) u ru => by subst r; exact ru) hk h
theorem e_cl {x : Str} {C : Addr} (hm' : X.mg x = some (.ref C)) (h : P (.cl C) m) (hg : Gl X x := by rfl) (hd : (x == ("__debug__" : Str)) = false := by decide) : Ee X Ω (.Name x pos) δ m P := e_glob (v := .ref C) (av := .cl C) hm' rfl (fun _ => rfl) h hg hd
theorem hot_suite {ad C : Addr} {oe : Obj} {d : Option Addr} {pn : List (Addr × Obj)} (hz : L2N.Zn (.ref C) d oe) (hf : ∃ vs, oe.data = .fields vs) : L2H.HotC (X.suite ad ((ad, oe) :: pn)) := by
  obtain ⟨vs, hd⟩ := hf
  exact ⟨(ad, oe), ⟨rfl, vs, hd, hz.2.2 vs hd⟩, List.mem_cons_self⟩
theorem unitS {k : Nat} {ad : Addr} {q : Addr × Obj} {pn : List (Addr × Obj)} (hr : Room k X.A) : (X.suite ad (q :: pn)).A.units + 64 < cLine := by have h := Room.units hr; exact h
theorem roomS {k : Nat} {ad : Addr} {q : Addr × Obj} {pn : List (Addr × Obj)} (hr : Room k X.A) : L2H.RoomH k (X.suite ad (q :: pn)).A := ⟨hr.dp, hr.un⟩
end
section
variable {P : Program} {w : World} {K : PySem.W.Frag} {mg : Str → Option Value} {base : Heap}
theorem fn_mk' {x : Str} {st : Stmt} {f : Addr} {fd : FuncData} {N ps : List Str} {k : Nat} {S : FSp} (D : Dn K mg x st ps f fd) (sc : FnScope N ps (defScope st)) (ar : ∀ as m P EP, S as m P EP → as.length = ps.length)
    (body : ∀ (cdv : Value) (A : Around) (outer : List Env) (s : Shared) (H : Hp) (E : XK), Room k (bodyX P w K mg base N x (defScope st) f cdv A outer s H E).A → (bodyX P w K mg base N x (defScope st) f cdv A outer s H E).N.Nodup → (bodyX P w K mg base N x (defScope st) f cdv A outer s H E).calm = true →
      PassesOwn (model (bodyX P w K mg base N x (defScope st) f cdv A outer s H E).prog (bodyX P w K mg base N x (defScope st) f cdv A outer s H E).w) (bodyX P w K mg base N x (defScope st) f cdv A outer s H E).A (bodyX P w K mg base N x (defScope st) f cdv A outer s H E).env (bodyX P w K mg base N x (defScope st) f cdv A outer s H E).xe →
      ∀ as m (Pq : AV → Mu → Prop) (EP : XP), S as m Pq EP →
      Eb (bodyX P w K mg base N x (defScope st) f cdv A outer s H E) (omX EP) (defBody st) (st0 N as) m { nx := fun _ m1 => Pq (.dat .none) m1, rt := Pq }) : FnOk P w K mg base (L2N.CX P w) (k + 1) f fd ps (spOf K S) :=
  def_ok D.fn sc ar fun cdv A outer s H E hr => body cdv A outer s H E hr sc.nd rfl (passes_of rfl)
end
/-! ## defs called while an exception is handled -/
/-- a def that stands by a name of the module and keeps a promise there -/
structure DfH (P : Program) (w : World) (K : PySem.W.Frag) (mg : Str → Option Value) (base : Heap) (k : Nat) (x : Str) (ps : List Str) (S : FSp) : Prop where
  ex : ∃ f fd, mg x = some (.ref f) ∧ PySem.W.keepIn K (.ref f) = true ∧ Binds K fd ps [] ∧ L2H.FnH P w K mg base (L2N.CX P w) k f fd ps (spOf K S)
abbrev bodyH (P : Program) (w : World) (K : PySem.W.Frag) (mg : Str → Option Value) (base : Heap) (N : List Str) (qual : Str) (sc : Scope) (f : Addr) (cdv : Value) (A : Around) (outer : List Env) (s : Shared) (H : Hp) (E : XK) (q : Addr × Obj) : Cx := L2H.cxH (L2N.CX P w) P w K mg base N qual sc f cdv A outer s H E q
section
variable {P : Program} {w : World} {K : PySem.W.Frag} {mg : Str → Option Value} {base : Heap}
theorem DfH.mk' {x : Str} {st : Stmt} {f : Addr} {fd : FuncData} {N ps : List Str} {k : Nat} {S : FSp} (D : Dn K mg x st ps f fd) (sc : FnScope N ps (defScope st)) (ar : ∀ as m P EP, S as m P EP → as.length = ps.length)
    (body : ∀ (cdv : Value) (A : Around) (outer : List Env) (s : Shared) (H : Hp) (E : XK) (q : Addr × Obj), L2H.RoomH k (bodyH P w K mg base N x (defScope st) f cdv A outer s H E q).A → (bodyH P w K mg base N x (defScope st) f cdv A outer s H E q).N.Nodup → L2H.HotC (bodyH P w K mg base N x (defScope st) f cdv A outer s H E q) →
      PassesOwn (model (bodyH P w K mg base N x (defScope st) f cdv A outer s H E q).prog (bodyH P w K mg base N x (defScope st) f cdv A outer s H E q).w) (bodyH P w K mg base N x (defScope st) f cdv A outer s H E q).A (bodyH P w K mg base N x (defScope st) f cdv A outer s H E q).env (bodyH P w K mg base N x (defScope st) f cdv A outer s H E q).xe →
      ∀ as m (Pq : AV → Mu → Prop) (EP : XP), S as m Pq EP →
      Eb (bodyH P w K mg base N x (defScope st) f cdv A outer s H E q) (omX EP) (defBody st) (st0 N as) m { nx := fun _ m1 => Pq (.dat .none) m1, rt := Pq }) : DfH P w K mg base (k + 1) x ps S := by
  refine ⟨f, fd, D.nm, D.fn.kp, D.bd, fun_okH D.fn sc (fun vs H Q E ⟨s, as, Pq, EP, _, hv, hS, _⟩ => (Paired.length hv).trans (ar _ _ _ _ hS)) fun cdv A outer s H vs Q E q hot hr h => ⟨_, wB.pss, ?_⟩⟩
  obtain ⟨t, as, Pq, EP, rfl, hv, hS, kq, kx⟩ := h
  refine body cdv A outer s t.H E q hr sc.nd ⟨q, hot, List.mem_cons_self⟩ (passes_of rfl) as t.m Pq EP hS t (L2.start N vs) _ rfl ⟨st0_ok hv, fun cls d _ H => E cls d H, L2N.takes_of rfl rfl rfl rfl, fun C fs d δ' σ' u o g _ dr => kx C fs d u o g dr⟩ ?_
  exact ⟨fun δ σ u p g r => kq (.dat .none) .non u p g Rp.non, fun a v u p g r => kq a v u p g r, fun _ _ _ z => z.elim, fun _ _ _ z => z.elim⟩
theorem DfH.mono {x : Str} {ps : List Str} {j k : Nat} {S : FSp} (F : DfH P w K mg base j x ps S) (h : j ≤ k) : DfH P w K mg base k x ps S := by
  obtain ⟨f, fd, h1, h2, h3, h4⟩ := F.ex
  exact ⟨f, fd, h1, h2, h3, h4.len, fun A outer s H args us vs Q E p hr => h4.run A outer s H args us vs Q E p (hr.mono h)⟩
end
section
variable {X : Cx} {Ω : Om} {δ : Dl} {m : Mu} {P : AV → Mu → Prop} {pos p p2 apos : Pos} {e : Expr} {es : List Expr}
theorem e_callH {k : Nat} {x : Str} {ps : List Str} {S : FSp} (F : DfH X.prog X.w X.K X.mg X.base k x ps S) (hr : L2H.RoomH k X.A) (hc : L2H.HotC X) (h : Ea X Ω (e :: es) δ m fun as m1 => S as m1 P fun C fs m2 => Ω C fs δ m2) (hg : Gl X x := by rfl)
    (hdb : (x == ("__debug__" : Str)) = false := by decide) (he : starEach (e :: es) X.env = (false, eval e X.env) :: starEach es X.env := by rfl) (hpl : (backTo pos (starEach es X.env)).any (·.1) = false := by rfl) : Ee X Ω (.Call (.Name x p) (e :: es) [] pos) δ m P := by
  refine ⟨fun s σ Q hm hs kq pins sh I => ?_⟩
  obtain ⟨f, fd, h1, h2, h3, h4⟩ := F.ex
  obtain ⟨W, tk, hW⟩ := hs.kx
  refine (L2H.pe_callH h4 hr hc hg h1 h2 h3 (fun σ => L2N.passAt tk σ) wA.pa hdb he hpl).run pins sh σ s.H Q I ?_
  refine h s σ _ hm hs fun as vs t p1 g1 r1 => ?_
  exact ⟨t, as, P, _, rfl, r1, p1, kq.back g1, fun C fs d u o g dr => hW C fs d δ σ u o (g1.trans g) (hs.sl.mono (g1.trans g)) dr⟩
end
section
variable {K : PySem.W.Frag} {m : Mu} {P : AV → Mu → Prop}
theorem o_neg {g : Int → V} {k : Int → Int} {i : Int} (hg : g i = .int (k i)) (h : P (.dat (.int (k i))) m) : O1 K (rU g) (.dat (.int i)) m P := by
  refine ⟨fun s vx Q hm hx kq => ?_⟩
  rw [av_int hx]
  exact ⟨i, rfl, by rw [hg]; exact kq.val (hm ▸ h) (Rp.int _)⟩
theorem datas_ints : ∀ xs : List Int, datas (xs.map fun x => AV.dat (.int x)) = some (xs.map .int)
  | [] => rfl
  | x :: xs => by
    rw [List.map_cons, List.map_cons]
    unfold datas
    rw [datas_ints xs]
    rfl
theorem rangeD_at {n k : Nat} {d : PyData} (h : (rangeD 0 n)[k]? = some d) : k < n ∧ d = .int k := by
  unfold rangeD at h
  rw [List.getElem?_map] at h
  by_cases hk : k < n
  · rw [List.getElem?_range hk] at h
    simp at h
    exact ⟨hk, h.symm⟩
  · rw [List.getElem?_eq_none (by simpa using hk)] at h
    cases h
theorem rangeD_len {n : Nat} : (rangeD 0 n).length = n := by simp [rangeD]
theorem mul64 {i j : Int} (h1 : i.natAbs < 18446744073709551616) (h2 : j.natAbs < 18446744073709551616) : CMulW i j := by
  have f : ∀ x : Nat, x < 18446744073709551616 → x.log2 < 64 := fun x h => PySem.Flt.log2_lt_of (by decide) h
  have := f _ h1
  have := f _ h2
  show _ + _ < _
  omega
theorem div64 {i j : Int} (h1 : 0 < j) (h2 : j.natAbs < 18446744073709551616) : CDivW i j :=
  ⟨h1, Nat.lt_trans (PySem.Flt.log2_lt_of (by decide) (show j.natAbs < 2 ^ 64 from h2)) (by decide)⟩
theorem take_snoc {α : Type} {l : List α} {k : Nat} {z : α} (h : l[k]? = some z) : l.take (k + 1) = l.take k ++ [z] := by
  rw [List.take_succ, h]
  rfl
theorem cutL_take {α : Type} (xs : List α) (k : Nat) : cutL xs none (some (k : Int)) = xs.take k := by
  unfold cutL
  have h1 : HT.sIx xs.length 0 none = 0 := rfl
  have h2 : HT.sIx xs.length xs.length (some (k : Int)) = min k xs.length := HT.sIx_nat _ _ k
  rw [h1, h2, List.drop_zero, Nat.sub_zero, Nat.min_def]
  split
  · rfl
  · rw [List.take_of_length_le (Nat.le_refl _), List.take_of_length_le (by omega)]
theorem cutL_drop {α : Type} (xs : List α) (k : Nat) : cutL xs (some (k : Int)) none = xs.drop k := by
  unfold cutL
  have h1 : HT.sIx xs.length 0 (some (k : Int)) = min k xs.length := HT.sIx_nat _ _ k
  have h2 : HT.sIx xs.length xs.length none = xs.length := rfl
  rw [h1, h2, List.take_of_length_le (by simp), Nat.min_def]
  split
  · rfl
  · rw [List.drop_of_length_le (Nat.le_refl _), List.drop_of_length_le (by omega)]
end
end QQ
set_option maxHeartbeats 4000000
namespace QQ
open PySem PySem.Spec PyProof.Rows L2
/-! ## the end: what the module's names hold, by checks over the heap behind the top -/
abbrev dG (x : Str) (st : Stmt) : He.DefD := ⟨(x, none), x, x, defArgs st, defBody st, defScope st, [], []⟩
abbrev dM (C m qual : Str) (st : Stmt) : He.DefD := ⟨(C, some m), m, qual, defArgs st, defBody st, defScope st, [], []⟩
def obsQ (fa : List He.Fa) (xk : List (PySem.W.Frag → Bool)) (fn : List He.DefD) (K : PySem.W.Frag) : He.AlD := ((fa.all fun f => f.ok K) && ((xk.all fun f => f K) && fn.all fun d => d.ok K), fn.map fun d => He.fnW K d.at_)
def SaysQ (fa : List He.Fa) (xk : List (PySem.W.Frag → Bool)) (fn : List He.DefD) (K : PySem.W.Frag) : Prop := obsQ fa xk fn K = He.valD fn
def obsQG (n : Nat) (fa : List He.Fa) (xk : List (PySem.W.Frag → Bool)) (fn : List He.DefD) (g : Addr → Option Obj) : He.AlD := obsQ fa xk fn (He.frG g (He.asD g n))
def hookQ (n : Nat) (fa : List He.Fa) (xk : List (PySem.W.Frag → Bool)) (fn : List He.DefD) : PySem.W.Hook where
  α := He.AlD
  obs := fun s => obsQG n fa xk fn s.heap.get?
  val := fun _ => He.valD fn
  says := fun _ h => ∃ K : PySem.W.Frag, K.In h ∧ SaysQ fa xk fn K
  of := fun _ _ e => ⟨_, He.frG_in, e⟩
  keeps := fun _ _ _ ⟨K, h1, h2⟩ k => ⟨K, PySem.W.Frag.In.keeps h1 k, h2⟩
theorem obsQG_eq {n : Nat} {fa : List He.Fa} {xk : List (PySem.W.Frag → Bool)} {fn : List He.DefD} {g : Addr → Option Obj} {s : Shared} (h : ∀ a, g a = s.heap.get? a) : obsQG n fa xk fn g = (hookQ n fa xk fn).obs s := by
  have e : g = s.heap.get? := funext h
  subst e
  rfl
section
variable {fa : List He.Fa} {xk : List (PySem.W.Frag → Bool)} {fn : List He.DefD} {K : PySem.W.Frag}
theorem SaysQ.both (c : SaysQ fa xk fn K) : (fa.all fun f => f.ok K) = true ∧ (xk.all fun f => f K) = true ∧ (fn.all fun d => d.ok K) = true := by
  have z : ((fa.all fun f => f.ok K) && ((xk.all fun f => f K) && fn.all fun d => d.ok K)) = true := congrArg (fun z : He.AlD => z.1) c
  rw [Bool.and_eq_true, Bool.and_eq_true] at z
  exact z
theorem SaysQ.fact (c : SaysQ fa xk fn K) (i : Nat) {f : He.Fa} (h : fa[i]? = some f := by rfl) : f.ok K = true := List.all_eq_true.mp c.both.1 f (List.mem_of_getElem? h)
theorem SaysQ.ck (c : SaysQ fa xk fn K) (i : Nat) {f : PySem.W.Frag → Bool} (h : xk[i]? = some f := by rfl) : f K = true := List.all_eq_true.mp c.both.2.1 f (List.mem_of_getElem? h)
theorem SaysQ.dfs (c : SaysQ fa xk fn K) (i : Nat) {d : He.DefD} (h : fn[i]? = some d := by rfl) : ∃ fd, FunD K d.name d.qual d.params d.body d.scope (d.dvs K) (d.kws K) (He.fAd K d.at_) fd := by
  have z := congrArg (fun z : He.AlD => z.2[i]?) c
  have z2 : (fn.map fun d => He.fnW K d.at_)[i]? = (fn.map He.DefD.val)[i]? := z
  rw [List.getElem?_map, List.getElem?_map, h] at z2
  exact He.DefD.funD (Option.some.inj z2) (List.all_eq_true.mp c.both.2.2 d (List.mem_of_getElem? h))
end
theorem fun_of {K : PySem.W.Frag} {x qual : Str} {st : Stmt} {f : Addr} {fd : FuncData} (F : FunD K x qual (defArgs st) (defBody st) (defScope st) [] [] f fd) : Fun K x qual st f fd := by
  obtain ⟨oc, od, dV, kV, doc, pm, an, cdv, ct, osl, e, lk, hcd, hD, hK⟩ := F.ex
  rcases hD with ⟨_, rfl⟩ | ⟨h, _⟩
  · exact ⟨⟨oc, od, kV, doc, pm, an, cdv, ct, osl, e, lk, hcd⟩, F.kp⟩
  · exact absurd rfl h
theorem dn_of {K : PySem.W.Frag} {mg : Str → Option Value} {x : Str} {st : Stmt} {ps : List Str} {f : Addr} {fd : FuncData} (F : FunD K x x (defArgs st) (defBody st) (defScope st) [] [] f fd) (nm : mg x = some (.ref f))
    (h : ∀ (kV doc pm : Value) (an : Option Addr) (cdv ct : Value) (us : List Value), us.length = ps.length → bindArgs (PySem.W.fnOf x x (defArgs st) (defBody st) (defScope st) .none kV doc pm an cdv ct) ⟨us, []⟩ = pure (ps.zip us)) : Dn K mg x st ps f fd := ⟨fun_of F, nm, F.bindsN h⟩
theorem SaysQ.dg {fa : List He.Fa} {xk : List (PySem.W.Frag → Bool)} {fn : List He.DefD} {K : PySem.W.Frag} (c : SaysQ fa xk fn K) (i : Nat) {x : Str} {st : Stmt} (h : fn[i]? = some (dG x st)) : ∃ fd, FunD K x x (defArgs st) (defBody st) (defScope st) [] [] (He.ga K x) fd := c.dfs i h
theorem SaysQ.dm {fa : List He.Fa} {xk : List (PySem.W.Frag → Bool)} {fn : List He.DefD} {K : PySem.W.Frag} (c : SaysQ fa xk fn K) (i : Nat) {C x qual : Str} {st : Stmt} (h : fn[i]? = some (dM C x qual st)) : ∃ fd, FunD K x qual (defArgs st) (defBody st) (defScope st) [] [] (He.ma K (He.ga K C) x) fd := c.dfs i h
/-! exception classes with fields -/
def oexB (K : PySem.W.Frag) (C : Addr) : Bool := match K.lookup C with
  | some ⟨.type "type", _, .cls cd, sl⟩ => (match cd.mro, sl.toList with
    | .ref C' :: bm, [_, _, _, _, some (.builtin n), _] => C' == C && (n == "ValueError.__new__" && (!cd.hasDel && (cd.hasDict && PySem.HandSPX.refsVE bm)))
    | _, _ => false)
  | _ => false
theorem oexB_ok {K : PySem.W.Frag} {C : Addr} (h : oexB K C = true) : ∃ nm q N bs bm sn sub ab col dd k0 k1 k2 k3 k5, K.lookup C = some (excClassObj nm q C N bs bm true sn sub ab col dd k0 k1 k2 k3 k5 "ValueError.__new__") ∧ PySem.HandSPX.refsVE bm = true := by
  unfold oexB at h
  split at h
  · rename_i d0 cd sl lk
    split at h
    · rename_i C1 bm a0 a1 a2 a3 n a5 e1 e2
      simp only [Bool.and_eq_true, beq_iff_eq, Bool.not_eq_true'] at h
      obtain ⟨rfl, rfl, h1, h2, h3⟩ := h
      obtain ⟨y1, y2, y3, y4, y5, y6, y7, y8, y9, y10, y11⟩ := cd
      obtain ⟨l⟩ := sl
      dsimp only at e1 e2 h1 h2
      subst e1 h1 h2 e2
      exact ⟨_, _, _, _, bm, _, _, _, _, _, _, _, _, _, _, lk, h3⟩
    · cases h
  · cases h
def excB (x f : Str) (K : PySem.W.Frag) : Bool := oexB K (He.ga K x) && (He.eqO (PySem.W.findIn K (.ref (He.ga K x)) "__setattr__") (some (some (.builtin "object.__setattr__"))) && (decide (PySem.W.subIn K (.ref (He.ga K x)) (.type "BaseException") = some true) &&
  (decide (PySem.W.typeIn K (.ref (He.ga K x)) = some (.type "type")) && (PySem.W.keepIn K (.ref (He.ga K x)) && (He.eqO (PySem.W.findIn K (.ref (He.ga K x)) "__init__") (some (some (.ref (He.ma K (He.ga K x) "__init__")))) &&
  (decide (PySem.W.typeIn K (.ref (He.ma K (He.ga K x) "__init__")) = some (.type "function")) && He.eqO (PySem.W.findIn K (.ref (He.ga K x)) f) (some none)))))))
def catB (x : Str) (K : PySem.W.Frag) : Bool := xfB K (He.ga K x) && (He.eqO (PySem.W.findIn K (.ref (He.ga K x)) "__class__") (some (some (.builtin "object.__class__"))) && (He.eqO (PySem.W.specialIn K (.builtin "object.__class__") "__get__") (some (some (.builtin "getset_descriptor.__get__"))) &&
  (decide (PySem.W.takesIn K (.builtin "object.__class__") = some true) && decide (PySem.W.mroIn K (He.ga K x) (.type "object") = some true))))
theorem excB_ok {x f : Str} {K : PySem.W.Frag} (h : excB x f K = true) : OexC K (He.ga K x) ∧ PySem.W.findIn K (.ref (He.ga K x)) "__init__" = some (some (.ref (He.ma K (He.ga K x) "__init__"))) ∧ PySem.W.typeIn K (.ref (He.ma K (He.ga K x) "__init__")) = some (.type "function") ∧ PySem.W.findIn K (.ref (He.ga K x)) f = some none := by
  unfold excB at h
  simp only [Bool.and_eq_true] at h
  obtain ⟨h1, h2, h3, h4, h5, h6, h7, h8⟩ := h
  exact ⟨⟨oexB_ok h1, He.eqO_ok h2, of_decide_eq_true h3, of_decide_eq_true h4, h5⟩, He.eqO_ok h6, of_decide_eq_true h7, He.eqO_ok h8⟩
theorem catB_ok {x : Str} {K : PySem.W.Frag} (h : catB x K = true) : XfC K (He.ga K x) ∧ ExcC K (He.ga K x) := by
  unfold catB at h
  simp only [Bool.and_eq_true] at h
  obtain ⟨h1, h2, h3, h4, h5⟩ := h
  have X := xfB_ok h1
  exact ⟨X, ⟨X.ga, X.gg, X.exC, X.hdC, He.eqO_ok h2, He.eqO_ok h3, of_decide_eq_true h4, of_decide_eq_true h5⟩⟩
def kitNB (x y : Str) (b : Bool) (K : PySem.W.Frag) : Bool := decide (PySem.W.kitOne K (.ref (He.ga K x)) (.ref (He.ga K y)) = some b)
def kitTB (x : Str) (n : String) (b : Bool) (K : PySem.W.Frag) : Bool := decide (PySem.W.kitOne K (.ref (He.ga K x)) (.type n) = some b)
/-- nothing is let out -/
theorem cx_no {P : Program} {w : World} {H : Hp} {s s' : Shared} {e : Value} (h : L2N.CX P w [] H s (fun _ _ _ => False) e s') : False := by
  obtain ⟨_, _, _, _, _, h1, h2, h3, h4, h5, h6, h7, z⟩ := h
  exact z
/-- a law's promise at the heap behind the top -/
theorem law_sp {K : PySem.W.Frag} {S : FSp} {H : Hp} {a : Addr} {ns : List Int} (q : SqL K H a (ns.map V.int)) (hS : ∀ (m : Mu) (P : AV → Mu → Prop) (EP : XP), P (.dat (.bool true)) m → S [.fz (ns.map .int)] m P EP) : spOf K S [.ref a] H (fun v _ => v = .bl true) fun _ _ _ => False := by
  refine ⟨⟨H, H, fun _ => none, fun _ _ e => e, fun _ _ e => nomatch e⟩, [.fz (ns.map .int)], fun y _ => y = .dat (.bool true), fun _ _ _ => False, rfl, .cons ⟨a, _, rfl, q, RpA.ints ns⟩ .nil, hS _ _ _ rfl, fun y v t ey _ r => ?_, fun _ _ _ _ z => z.elim⟩
  subst ey
  have r' : Rp K t.G v (.bool true) := r
  cases r'
  rfl
theorem walk_Q {l : PySem.W.OpenLaw} {n k : Nat} {q : Program} {loose : List Str} {XQ : (Str → Option Value) → Heap → Prop} {YQ : World → Heap → Prop} {d : DefRec} {x : Str} {S : FSp} (h1 : l.most = some n) (h2 : n ≤ sizeLine) (h3 : d.params.defaults = []) (h4 : Room k callerA)
    (h5 : ∀ ns : List Int, ns.length ≤ n → ∀ (m : Mu) (P : AV → Mu → Prop) (EP : XP), P (.dat (.bool true)) m → S [.fz (ns.map .int)] m P EP)
    (h6 : ∀ (w : World) (mg : Str → Option Value) (f : Addr) (h : Heap), YQ w h → h.Ns mainGlobals mg → mg d.name = some (.ref f) → ∃ (K : PySem.W.Frag) (fd : FuncData), K.In h ∧ (∀ (s : Shared) (v : Value), BindsTo s fd ⟨[v], []⟩ [(x, v)]) ∧
      ∀ base : Heap, K.In base → base.Ns mainGlobals mg → FnOk l.prog w K mg base (L2N.CX l.prog w) k f fd [x] (spOf K S)) : PySem.W.WalkO q loose XQ YQ l.row.toRowW d [] (fun f vs => PySem.call f vs) := by
  refine Att.attach_call h1 h3 fun w s0 s1 mg mb f o pm cd doc a vs ns T Y e1 e2 e3 e4 e5 e6 e7 e8 => ?_
  obtain ⟨K, fd, k1, k2, k3⟩ := h6 w mg f _ Y T.T.g e4
  exact law_call k1 T.T.g T.T.b T.T.builtins T.T.nolimit e8 e5 e6 (Nat.le_trans e7 h2) h4 k3 k2 (fun H hO hq => law_sp hq (h5 ns e7)) fun H e s' z => cx_no z
end QQ
set_option maxHeartbeats 4000000
namespace KK
open PySem PySem.Spec PyProof.Rows L2 QQ
/-! ## plain mathematics -/
theorem gcd_step {x y : Int} (hx : 0 ≤ x) (hy : 0 < y) : Int.gcd y (x % y) = Int.gcd x y := by
  obtain ⟨a, rfl⟩ := Int.eq_ofNat_of_zero_le hx
  obtain ⟨b, rfl⟩ := Int.eq_ofNat_of_zero_le (Int.le_of_lt hy)
  have e : ((a : Int) % (b : Int)) = ((a % b : Nat) : Int) := by omega
  rw [e]
  show Nat.gcd b (a % b) = Nat.gcd a b
  rw [Nat.gcd_comm b (a % b), ← Nat.gcd_rec, Nat.gcd_comm]
theorem gcd_stepI {x y : Int} (hy : 0 < y) : Int.gcd y (x % y) = Int.gcd x y := by
  rw [Int.gcd_comm x y]
  apply Nat.dvd_antisymm
  · refine Int.dvd_coe_gcd (Int.gcd_dvd_left ..) ?_ |> Int.natCast_dvd_natCast.mp
    have h1 : ((Int.gcd y (x % y) : Nat) : Int) ∣ y := Int.gcd_dvd_left ..
    have h2 : ((Int.gcd y (x % y) : Nat) : Int) ∣ x % y := Int.gcd_dvd_right ..
    have e : y * (x / y) + x % y = x := Int.mul_ediv_add_emod x y
    have h3 : ((Int.gcd y (x % y) : Nat) : Int) ∣ y * (x / y) + x % y := Int.dvd_add (Int.dvd_mul_of_dvd_left h1) h2
    rw [e] at h3
    exact h3
  · refine Int.dvd_coe_gcd (Int.gcd_dvd_left ..) ?_ |> Int.natCast_dvd_natCast.mp
    have h1 : ((Int.gcd y x : Nat) : Int) ∣ y := Int.gcd_dvd_left ..
    have h2 : ((Int.gcd y x : Nat) : Int) ∣ x := Int.gcd_dvd_right ..
    rw [Int.emod_def]
    exact Int.dvd_sub h2 (Int.dvd_mul_of_dvd_left h1)
theorem gcd_absl {a b : Int} : Int.gcd (if a < 0 then -a else a) (if b < 0 then -b else b) = Int.gcd a b := by
  have h1 : ∀ a : Int, (if a < 0 then -a else a).natAbs = a.natAbs := fun a => by split <;> omega
  show Nat.gcd _ _ = Nat.gcd _ _
  rw [h1, h1]
theorem gcd_zero {a : Int} (h : 0 ≤ a) : ((Int.gcd a 0 : Nat) : Int) = a := by
  show ((Nat.gcd a.natAbs 0 : Nat) : Int) = a
  rw [Nat.gcd_zero_right]; omega
theorem gcd_pos {a b : Int} (h : 0 < b) : 0 < ((Int.gcd a b : Nat) : Int) := by
  have z : Int.gcd a b ≠ 0 := fun z => by
    have := (Int.gcd_eq_zero_iff.mp z).2
    omega
  omega
theorem gcd_le {a b : Int} (h : 0 < b) : ((Int.gcd a b : Nat) : Int) ≤ b := Int.le_of_dvd h (Int.gcd_dvd_right ..)
/-- numbers below 2 ^ n -/
abbrev Lt2 (n : Nat) (i : Int) : Prop := i.natAbs < 2 ^ n
theorem Lt2.le {n : Nat} {i j : Int} (h : Lt2 n j) (k : i.natAbs ≤ j.natAbs) : Lt2 n i := Nat.lt_of_le_of_lt k h
theorem Lt2.div {n : Nat} {i j : Int} (h : Lt2 n i) : Lt2 n (i / j) := by
  refine Lt2.le h ?_
  exact Int.natAbs_ediv_le_natAbs i j
theorem Lt2.log {n : Nat} {i : Int} (h : Lt2 n i) (hn : 0 < n) : i.natAbs.log2 < n := PySem.Flt.log2_lt_of hn h
theorem Lt2.mono {n m : Nat} {i : Int} (h : Lt2 n i) (k : n ≤ m) : Lt2 m i := Nat.lt_of_lt_of_le h (Nat.pow_le_pow_right (by decide) k)
theorem Lt2.mul {n m : Nat} {i j : Int} (h : Lt2 n i) (k : Lt2 m j) : Lt2 (n + m) (i * j) := wide_lt h k
theorem text_len {i : Int} (h : Lt2 1900 i) : (Str.ofString (toString i)).length ≤ 2000 := by
  have e := int_text_length_le (k := 1900) (by decide) (h.log (by decide))
  rw [PySem.ofString_length]; omega
/-- a whole number that signs write -/
def figs (l : List Nat) : Bool := l.all fun c => decide (c ∈ ([48, 49, 50, 51, 52, 53, 54, 55, 56, 57] : List Nat))
def badL (l : List Nat) : Bool := decide (l = []) || decide (60 < l.length) || (l.head? == some 48 && l != [48])
def wholeL (l : List Nat) : Option Int := if badL l = true then none else if figs l = true then some ((NumText.digitsVal l : Nat) : Int) else none
theorem figs_str : ("0123456789" : Str).cps.toList = [48, 49, 50, 51, 52, 53, 54, 55, 56, 57] := by decide +kernel
theorem zero_str : ("0" : Str).cps.toList = [48] := by decide +kernel
theorem str_ext {a b : Str} (h : a.cps.toList = b.cps.toList) : a = b := by
  cases a; cases b
  congr 1
  exact Array.ext' h
theorem eqv_strL (a b : Str) : PyData.eqv (.str a) (.str b) = decide (a.cps.toList = b.cps.toList) := by
  rw [Bool.eq_iff_iff]
  simp only [PyData.eqv, decide_eq_true_eq, beq_iff_eq]
  exact ⟨fun h => by rw [h], str_ext⟩
theorem eqv_int (a b : Int) : PyData.eqv (.int a) (.int b) = decide (a = b) := by
  rw [Bool.eq_iff_iff]
  simp [PyData.eqv]
theorem figs_digits {l : List Nat} (h : figs l = true) : NumText.AllDigits l := fun c hc => by
  have := List.all_eq_true.mp h c hc
  simp at this
  omega
/-- signs that there are -/
def okS (z : Str) : Prop := ∀ c ∈ z.cps.toList, c < 0x110000
theorem strOk_of {z : Str} (h : okS z) : PyData.strOk z = true := by
  unfold PyData.strOk
  rw [← Array.all_toList, List.all_eq_true]
  exact fun c hc => decide_eq_true (h c hc)
def flatOk : PyData → Bool
  | .none => true | .bool _ => true | .int _ => true | .str x => PyData.strOk x | _ => false
theorem lay_flat {d : PyData} (h : flatOk d = true) : d.canLay0 = true ∧ d.depth = 0 := by
  cases d with
  | none => exact ⟨by simp [PyData.canLay0], by simp [PyData.depth]⟩
  | bool _ => exact ⟨by simp [PyData.canLay0], by simp [PyData.depth]⟩
  | int _ => exact ⟨by simp [PyData.canLay0], by simp [PyData.depth]⟩
  | str x => exact ⟨by simp only [PyData.canLay0]; exact h, by simp [PyData.depth]⟩
  | list _ => cases h
  | tuple _ => cases h
  | dict _ => cases h
theorem lay_flats : ∀ {ds : List PyData}, ds.all flatOk = true → PyData.canLayAll0 ds = true ∧ PyData.depthAll ds = 0
  | [], _ => ⟨by simp [PyData.canLayAll0], by simp [PyData.depthAll]⟩
  | d :: ds, h => by
    rw [List.all_cons, Bool.and_eq_true] at h
    obtain ⟨h1, h2⟩ := lay_flat h.1
    obtain ⟨h3, h4⟩ := lay_flats h.2
    exact ⟨by simp [PyData.canLayAll0, h1, h3], by simp [PyData.depthAll, h2, h4]⟩
theorem shaped_list {ds : List PyData} (h : ds.all flatOk = true) : SeqAt.shaped (.list ds) = true := by
  obtain ⟨h3, h4⟩ := lay_flats h
  simp [SeqAt.shaped, PyData.canLay0, PyData.depth, h3, h4]
theorem shaped_tup {ds : List PyData} (h : ds.all flatOk = true) : SeqAt.shaped (.tuple ds) = true := by
  obtain ⟨h3, h4⟩ := lay_flats h
  simp [SeqAt.shaped, PyData.canLay0, PyData.depth, h3, h4]
theorem shaped_flat {d : PyData} (h : flatOk d = true) : SeqAt.shaped d = true := by
  obtain ⟨h3, h4⟩ := lay_flat h
  simp [SeqAt.shaped, h3, h4]
theorem eqv_nil (ds : List PyData) : PyData.eqv (.list ds) (.list []) = ds.isEmpty := by
  cases ds <;> simp [PyData.eqv, PyData.eqvAll]
/-- a piece -/
structure SubS (a z : Str) : Prop where
  len : a.length ≤ z.length
  mem : ∀ c ∈ a.cps.toList, c ∈ z.cps.toList
theorem SubS.refl (z : Str) : SubS z z := ⟨Nat.le_refl _, fun _ h => h⟩
theorem SubS.ok {a z : Str} (h : SubS a z) (k : okS z) : okS a := fun c hc => k c (h.mem c hc)
theorem SubS.trans {a b c : Str} (h : SubS a b) (k : SubS b c) : SubS a c := ⟨Nat.le_trans h.len k.len, fun x hx => k.mem x (h.mem x hx)⟩
theorem sub_empty (z : Str) : SubS Str.empty z := ⟨Nat.zero_le _, fun c hc => by simp [Str.empty] at hc⟩
theorem sub_strSub (x : Str) (i j : Nat) : SubS (Builtin.Str.strSub x i j) x := by
  refine ⟨?_, fun c hc => ?_⟩
  · show (x.cps.extract i j).size ≤ x.cps.size
    rw [Array.size_extract]
    omega
  · have h : c ∈ (x.cps.extract i j).toList := hc
    rw [Array.toList_extract] at h
    exact List.mem_of_mem_drop (List.mem_of_mem_take h)
theorem part_1 (z w : Str) : SubS (Txt.partition z w).1 z := by
  unfold Txt.partition
  split
  · exact sub_strSub _ _ _
  · exact SubS.refl _
theorem part_3 (z w : Str) : SubS (Txt.partition z w).2.2 z := by
  unfold Txt.partition
  split
  · exact sub_strSub _ _ _
  · exact sub_empty _
theorem part_2 (z w : Str) : (Txt.partition z w).2.1 = w ∨ (Txt.partition z w).2.1 = Str.empty := by
  unfold Txt.partition
  split
  · exact .inl rfl
  · exact .inr rfl
theorem cut_sub (z : Str) (l u : Option Int) : SubS (cutS z l u) z := ⟨cutS_length z l u, fun c hc => by
  unfold cutS at hc
  rw [List.toList_toArray] at hc
  exact List.mem_of_mem_drop (List.mem_of_mem_take hc)⟩
theorem cut_1 (z : Str) : (cutS z none (some 1)).cps.toList = z.cps.toList.take 1 := by
  unfold cutS
  have e : z.cps.toList.length = z.length := Array.length_toList
  have h1 : HT.sIx z.length 0 none = 0 := rfl
  have h2 : HT.sIx z.length z.length (some 1) = min 1 z.length := HT.sIx_nat _ _ 1
  rw [h1, h2, List.drop_zero, Nat.sub_zero, ← e]
  cases z.cps.toList <;> simp
theorem cut_k (z : Str) (k : Nat) : (cutS z (some (k : Int)) none).cps.toList = z.cps.toList.drop k := by
  unfold cutS
  have e : z.cps.toList.length = z.length := Array.length_toList
  have h1 : HT.sIx z.length 0 (some (k : Int)) = min k z.length := HT.sIx_nat _ _ k
  have h2 : HT.sIx z.length z.length none = z.length := rfl
  rw [h1, h2, ← e]
  show (List.take _ (List.drop _ _)) = _
  rw [List.take_of_length_le (by simp)]
  rw [Nat.min_def]
  split
  · rfl
  · rw [List.drop_of_length_le (Nat.le_refl _), List.drop_of_length_le (by omega)]
/-- the fraction that three pieces write -/
def minusL (l : List Nat) : Bool := decide (l.take 1 = [45])
def ratio3 (p1 p2 p3 : List Nat) : Option (Int × Int) :=
  match wholeL (p1.drop (if minusL p1 = true then 1 else 0)) with
  | none => none
  | some t => if (minusL p1 && decide (t = 0)) = true then none else
    if p2 = [] then some (if minusL p1 = true then 0 - t else t, 1) else
    match wholeL p3 with
    | none => none
    | some b => if b < 2 ∨ Int.gcd (if minusL p1 = true then 0 - t else t) b ≠ 1 then none else some (if minusL p1 = true then 0 - t else t, b)
def ratioZ (z : Str) : Option (Int × Int) := ratio3 (Txt.partition z "/").1.cps.toList (Txt.partition z "/").2.1.cps.toList (Txt.partition z "/").2.2.cps.toList
theorem wholeL_nn {l : List Nat} {t : Int} (h : wholeL l = some t) : 0 ≤ t := by
  unfold wholeL at h
  split at h
  · cases h
  · split at h
    · cases h; exact Int.natCast_nonneg _
    · cases h
theorem foldl_ge : ∀ (l : List Nat) (a : Nat), 0 < a → 0 < l.foldl (fun acc c => acc * 10 + (c - 48)) a
  | [], a, h => h
  | c :: r, a, h => foldl_ge r (a * 10 + (c - 48)) (by omega)
theorem wholeL_zero {l : List Nat} {t : Int} (h : wholeL l = some t) : t = 0 ↔ l = [48] := by
  unfold wholeL at h
  split at h
  · cases h
  · rename_i hb
    split at h
    · rename_i hf
      cases h
      constructor
      · intro e
        cases l with
        | nil => simp [badL] at hb
        | cons c r =>
          have hd := figs_digits hf c (List.mem_cons_self ..)
          by_cases h48 : c = 48
          · subst h48
            cases r with
            | nil => rfl
            | cons d r => simp [badL] at hb
          · exfalso
            have : 0 < (c :: r).foldl (fun acc c => acc * 10 + (c - 48)) 0 := by
              rw [List.foldl_cons]
              exact foldl_ge r _ (by omega)
            unfold NumText.digitsVal at e
            omega
      · intro e
        subst e
        decide
    · cases h
end KK
set_option maxHeartbeats 4000000
namespace KK
open PySem PySem.Spec PyProof.Rows L2 QQ
local macro_rules | `(tactic| walk_at "o2") => `(tactic| first
  | refine o_add_int ?_
  | refine o_sub ?_
  | refine o_cmp ?_
  | refine o_isN ?_
  | refine o_notN ?_
  | refine o_eqS rfl ?_
  | refine o_neS rfl ?_
  | (refine o_add_str ?_ ?_; rotate_left)
  | (refine o_add_lst ?_ ?_; rotate_left)
  | (refine o_mul ?_ ?_; rotate_left)
  | (refine o_mul_str ?_ ?_; rotate_left)
  | (refine o_I ?_ ?_; rotate_left)
  | refine o_inSign ?_
  | refine o_notInSign ?_
  | refine o_ix_tup rfl ?_
  | refine o_ix_lst rfl ?_
  | refine o_ix_fz rfl ?_
  | refine o_ix_own rfl rfl ?_
  | (refine o_ix_str' ?_ ?_ ?_; rotate_left 2)
  | (refine o_ix_lst' ?_ ?_; rotate_left)
  | (refine o_ix_tup' ?_ ?_; rotate_left)
  | (refine o_ix_fz' ?_ ?_; rotate_left)
  | (refine o_eq ?_ ?_ ?_; rotate_left 2)
  | (refine o_ne ?_ ?_ ?_; rotate_left 2))
local macro_rules | `(tactic| walk_at "os") => `(tactic| first
  | (refine sl_str' ?_ ?_; rotate_left)
  | refine sl_lst' ?_
  | refine sl_fz' ?_
  | (refine sl_tup' ?_ ?_; rotate_left))
local macro_rules | `(tactic| walk_at "oa") => `(tactic| first
  | refine o_len_lst ?_
  | refine o_len_tup ?_
  | refine o_len_fz ?_
  | (refine o_len_str ?_ ?_; rotate_left)
  | refine o_len_own rfl ?_
  | refine o_abs ?_
  | refine o_max2 ?_
  | refine o_min2 ?_
  | refine o_int_bl ?_
  | (refine o_int_str ?_ ?_ ?_; rotate_left 2)
  | (refine o_str ?_ ?_; rotate_left)
  | refine o_isi_int ?_
  | refine o_isi_bool ?_
  | refine o_isi_str ?_
  | refine o_isi_tuple ?_
  | refine o_isi_list ?_
  | refine o_isi_dict ?_)
local macro_rules | `(tactic| walk_at "ee") => `(tactic| first
  | ((with_reducible refine id_name _ ?_); walk_at "var")
  | ((with_reducible refine id_const ?_); first | refine e_int ?_ | refine e_str ?_ | refine e_non ?_ | refine e_bl ?_)
  | ((with_reducible refine id_subs ?_); first | refine e_slice ?_ | refine e_sub ix_seq ?_)
  | ((with_reducible refine id_bin .Add ?_); refine e_bin (op := .Add) op_addA ?_)
  | ((with_reducible refine id_bin .Sub ?_); refine e_bin (op := .Sub) op_sub ?_)
  | ((with_reducible refine id_bin .Mult ?_); refine e_bin (op := .Mult) op_mulA ?_)
  | ((with_reducible refine id_bin .FloorDiv ?_); refine e_bin (op := .FloorDiv) op_fdivW ?_)
  | ((with_reducible refine id_bin .Mod ?_); refine e_bin (op := .Mod) op_mod ?_)
  | ((with_reducible refine id_bin .Pow ?_); refine e_bin (op := .Pow) op_pow ?_)
  | ((with_reducible refine id_cmp .Lt ?_); refine e_cmp (op := .Lt) op_lt ?_)
  | ((with_reducible refine id_cmp .LtE ?_); refine e_cmp (op := .LtE) op_le ?_)
  | ((with_reducible refine id_cmp .Gt ?_); refine e_cmp (op := .Gt) op_gt ?_)
  | ((with_reducible refine id_cmp .GtE ?_); refine e_cmp (op := .GtE) op_ge ?_)
  | ((with_reducible refine id_cmp .Is ?_); refine e_cmp (op := .Is) op_isN ?_)
  | ((with_reducible refine id_cmp .IsNot ?_); refine e_cmp (op := .IsNot) op_notN ?_)
  | ((with_reducible refine id_cmp .Eq ?_); refine e_cmp (op := .Eq) (op_eqA (Room.units (by assumption))) ?_)
  | ((with_reducible refine id_cmp .NotEq ?_); refine e_cmp (op := .NotEq) (op_neA (Room.units (by assumption))) ?_)
  | ((with_reducible refine id_cmp .In ?_); refine e_cmp (op := .In) op_in_sign ?_)
  | ((with_reducible refine id_cmp .NotIn ?_); refine e_cmp (op := .NotIn) op_notIn_sign ?_)
  | ((with_reducible refine id_calln "len" ?_); refine e_len (by assumption) ?_)
  | ((with_reducible refine id_calln "abs" ?_); refine e_abs (by assumption) ?_)
  | ((with_reducible refine id_calln "int" ?_); refine e_intc (by assumption) ?_)
  | ((with_reducible refine id_calln "str" ?_); refine e_strc (by assumption) ?_)
  | ((with_reducible refine id_calln "max" ?_); refine e_max (by assumption) (by assumption) ?_)
  | ((with_reducible refine id_calln "min" ?_); refine e_min (by assumption) (by assumption) ?_)
  | ((with_reducible refine id_calln "isinstance" ?_); first | refine e_isi (T := "int") (n := "int") (by assumption) (by assumption) ?_ | refine e_isi (T := "bool") (n := "bool") (by assumption) (by assumption) ?_ | refine e_isi (T := "str") (n := "str") (by assumption) (by assumption) ?_ | refine e_isi (T := "tuple") (n := "tuple") (by assumption) (by assumption) ?_ | refine e_isi (T := "list") (n := "list") (by assumption) (by assumption) ?_ | refine e_isi (T := "dict") (n := "dict") (by assumption) (by assumption) ?_)
  | ((with_reducible refine id_callm "partition" ?_); refine e_part ?_)
  | ((with_reducible refine id_callm "split" ?_); refine e_split ?_)
  | ((with_reducible refine id_callm "join" ?_); refine e_join ?_)
  | ((with_reducible refine id_callm "append" ?_); refine e_append ?_)
  | ((with_reducible refine id_bool ?_); first | refine e_one ?_ | refine e_and ?_ | refine e_or ?_)
  | ((with_reducible refine id_un .Not ?_); refine e_not ?_)
  | ((with_reducible refine id_un .USub ?_); refine e_un (op := .USub) un_neg ?_)
  | refine e_tup ?_
  | refine e_fmt ?_
  | refine e_joined ?_
  | refine e_ifExp ?_)
local macro_rules | `(tactic| walk_at "et") => `(tactic| first
  | ((with_reducible refine id_tnot ?_); refine t_not ?_)
  | ((with_reducible refine id_tbool ?_); first | refine t_w (w_and ?_) | refine t_w (w_or ?_))
  | ((with_reducible refine id_tcmp .Lt ?_); refine t_cmp (op := .Lt) op_lt ?_)
  | ((with_reducible refine id_tcmp .LtE ?_); refine t_cmp (op := .LtE) op_le ?_)
  | ((with_reducible refine id_tcmp .Gt ?_); refine t_cmp (op := .Gt) op_gt ?_)
  | ((with_reducible refine id_tcmp .GtE ?_); refine t_cmp (op := .GtE) op_ge ?_)
  | ((with_reducible refine id_tcmp .Is ?_); refine t_cmp (op := .Is) op_isN ?_)
  | ((with_reducible refine id_tcmp .IsNot ?_); refine t_cmp (op := .IsNot) op_notN ?_)
  | ((with_reducible refine id_tcmp .Eq ?_); refine t_cmp (op := .Eq) (op_eqA (Room.units (by assumption))) ?_)
  | ((with_reducible refine id_tcmp .NotEq ?_); refine t_cmp (op := .NotEq) (op_neA (Room.units (by assumption))) ?_)
  | ((with_reducible refine id_tcmp .In ?_); refine t_cmp (op := .In) op_in_sign ?_)
  | ((with_reducible refine id_tcmp .NotIn ?_); refine t_cmp (op := .NotIn) op_notIn_sign ?_)
  | ((with_reducible refine id_tcmp2 ?_); first | refine t_chain (op := .LtE) (op' := .LtE) op_le op_le ?_ | refine t_chain (op := .LtE) (op' := .Lt) op_le op_lt ?_ | refine t_chain (op := .Lt) (op' := .Lt) op_lt op_lt ?_)
  | refine t_val ?_)
local macro_rules | `(tactic| walk_at "ew") => `(tactic| first
  | refine w_and1 ?_
  | refine w_or1 ?_
  | refine w_and ?_
  | refine w_or ?_)
local macro_rules | `(tactic| walk_at "es") => `(tactic| first
  | ((with_reducible refine id_sret ?_); refine s_ret ?_)
  | ((with_reducible refine id_sif ?_); refine s_if ?_)
  | ((with_reducible refine id_sset _ ?_); walk_at "set")
  | ((with_reducible refine id_sasg ?_); refine s_asg ?_)
  | ((with_reducible refine id_sexpr ?_); refine s_expr ?_)
  | refine s_retN ?_
  | refine s_pass ?_)
local macro_rules | `(tactic| walk_at "q1") => `(tactic| first
  | ((with_reducible refine id_e ?_); walk_at "ee")
  | ((with_reducible refine id_o2 ?_); walk_at "o2")
  | ((with_reducible refine id_b ?_); first | refine b_cons ?_ | refine b_nil ?_)
  | ((with_reducible refine id_s ?_); walk_at "es")
  | ((with_reducible refine id_t ?_); walk_at "et")
  | ((with_reducible refine id_w ?_); walk_at "ew")
  | ((with_reducible refine id_a ?_); first | refine a_cons ?_ | refine a_nil ?_)
  | ((with_reducible refine id_oa ?_); walk_at "oa")
  | ((with_reducible refine id_os ?_); walk_at "os")
  | ((with_reducible refine id_p ?_); first | refine p_none ?_ | refine p_some ?_)
  | ((with_reducible refine id_gs ?_); first | refine gs_nil ?_ | walk_at "gs1")
  | ((with_reducible refine id_g ?_); first | walk_at "g1" | refine g_tup (by assumption) ?_ | refine g_unl (by assumption) ?_)
  | (with_reducible refine iteT ?_)
  | (with_reducible refine iteF ?_)
  | refine j_cons ?_
  | refine j_nil ?_
  | (refine o_fmt_int ?_ ?_; rotate_left)
  | (refine o_fmt_str ?_ ?_; rotate_left)
  | refine o_T rfl (Nat.le_of_ble_eq_true rfl) ?_
  | (refine o_part rfl ?_ ?_; rotate_left)
  | (refine o_split rfl ?_ ?_; rotate_left)
  | (refine o_j ?_ ?_; rotate_left)
  | (refine o_app (by assumption) ?_ ?_; rotate_left)
  | refine ⟨_, rfl, ?_⟩)
local macro_rules | `(tactic| walk_at "q") => `(tactic| repeat walk_at "q1")
local macro_rules | `(tactic| walk_at "qs") => `(tactic| repeat' (first | walk_at "q1" | refine ite2 (fun _ => ?_) (fun _ => ?_)))
local macro_rules | `(tactic| walk_at "len") => `(tactic| ((try simp only [Str.empty_append, Str.length_append]); (try (have : ("/" : Str).length = 1 := rfl)); omega))
def top (i : Nat) : Stmt := PySem.Challenge.pw_farthestcut_k74_fractions_written.main.body.getD i (.Pass ⟨0, 0, 0, 0⟩)
abbrev s_NoText___init__ : Stmt := inClass (top 2) 0
abbrev n_NoText___init__ : List Str := ["self", "row"]
theorem sc_NoText___init__ : FnScope n_NoText___init__ ["self", "row"] (defScope s_NoText___init__) := ⟨rfl, rfl, rfl, by decide +kernel, rfl, by decide +kernel, by decide +kernel⟩
abbrev s_divisor : Stmt := top 4
abbrev n_divisor : List Str := ["one", "other"]
theorem sc_divisor : FnScope n_divisor ["one", "other"] (defScope s_divisor) := ⟨rfl, rfl, rfl, by decide +kernel, rfl, by decide +kernel, by decide +kernel⟩
abbrev s_shown_ratio : Stmt := top 8
abbrev n_shown_ratio : List Str := ["one"]
theorem sc_shown_ratio : FnScope n_shown_ratio ["one"] (defScope s_shown_ratio) := ⟨rfl, rfl, rfl, by decide +kernel, rfl, by decide +kernel, by decide +kernel⟩
abbrev s_whole_in : Stmt := top 9
abbrev n_whole_in : List Str := ["signs", "sign"]
theorem sc_whole_in : FnScope n_whole_in ["signs"] (defScope s_whole_in) := ⟨rfl, rfl, rfl, by decide +kernel, rfl, by decide +kernel, by decide +kernel⟩
abbrev s_ratio_in : Stmt := top 10
abbrev n_ratio_in : List Str := ["text", "above", "stroke", "below", "minus", "top", "bottom"]
theorem sc_ratio_in : FnScope n_ratio_in ["text"] (defScope s_ratio_in) := ⟨rfl, rfl, rfl, by decide +kernel, rfl, by decide +kernel, by decide +kernel⟩
abbrev s_read_ratio : Stmt := top 11
abbrev n_read_ratio : List Str := ["text", "found"]
theorem sc_read_ratio : FnScope n_read_ratio ["text"] (defScope s_read_ratio) := ⟨rfl, rfl, rfl, by decide +kernel, rfl, by decide +kernel, by decide +kernel⟩
abbrev s_lowest : Stmt := top 13
abbrev n_lowest : List Str := ["top", "bottom", "share"]
theorem sc_lowest : FnScope n_lowest ["top", "bottom"] (defScope s_lowest) := ⟨rfl, rfl, rfl, by decide +kernel, rfl, by decide +kernel, by decide +kernel⟩
abbrev s_times : Stmt := top 14
abbrev n_times : List Str := ["one", "other"]
theorem sc_times : FnScope n_times ["one", "other"] (defScope s_times) := ⟨rfl, rfl, rfl, by decide +kernel, rfl, by decide +kernel, by decide +kernel⟩
abbrev s__law_draws : Stmt := top 16
abbrev n__law_draws : List Str := ["cell", "sizes", "number", "left", "found", "k", "one"]
theorem sc__law_draws : FnScope n__law_draws ["cell", "sizes"] (defScope s__law_draws) := ⟨rfl, rfl, rfl, by decide +kernel, rfl, by decide +kernel, by decide +kernel⟩
abbrev s__law_whole : Stmt := top 17
abbrev n__law_whole : List Str := ["thing"]
theorem sc__law_whole : FnScope n__law_whole ["thing"] (defScope s__law_whole) := ⟨rfl, rfl, rfl, by decide +kernel, rfl, by decide +kernel, by decide +kernel⟩
abbrev s__law_divisor : Stmt := top 18
abbrev n__law_divisor : List Str := ["one", "other"]
theorem sc__law_divisor : FnScope n__law_divisor ["one", "other"] (defScope s__law_divisor) := ⟨rfl, rfl, rfl, by decide +kernel, rfl, by decide +kernel, by decide +kernel⟩
abbrev s__law_lowest : Stmt := top 19
abbrev n__law_lowest : List Str := ["top", "bottom", "share"]
theorem sc__law_lowest : FnScope n__law_lowest ["top", "bottom"] (defScope s__law_lowest) := ⟨rfl, rfl, rfl, by decide +kernel, rfl, by decide +kernel, by decide +kernel⟩
abbrev s__law_figures : Stmt := top 20
abbrev n__law_figures : List Str := ["signs", "sign"]
theorem sc__law_figures : FnScope n__law_figures ["signs"] (defScope s__law_figures) := ⟨rfl, rfl, rfl, by decide +kernel, rfl, by decide +kernel, by decide +kernel⟩
abbrev s__law_number : Stmt := top 21
abbrev n__law_number : List Str := ["text", "above", "stroke", "below", "head", "top"]
theorem sc__law_number : FnScope n__law_number ["text"] (defScope s__law_number) := ⟨rfl, rfl, rfl, by decide +kernel, rfl, by decide +kernel, by decide +kernel⟩
abbrev s__law_written : Stmt := top 22
abbrev n__law_written : List Str := ["one"]
theorem sc__law_written : FnScope n__law_written ["one"] (defScope s__law_written) := ⟨rfl, rfl, rfl, by decide +kernel, rfl, by decide +kernel, by decide +kernel⟩
abbrev s__law_fraction : Stmt := top 23
abbrev n__law_fraction : List Str := ["digits", "above", "below", "small", "sign", "whole", "found"]
theorem sc__law_fraction : FnScope n__law_fraction ["digits", "above", "below"] (defScope s__law_fraction) := ⟨rfl, rfl, rfl, by decide +kernel, rfl, by decide +kernel, by decide +kernel⟩
abbrev s__law_bent : Stmt := top 24
abbrev n__law_bent : List Str := ["text", "way", "kind", "at", "sign"]
theorem sc__law_bent : FnScope n__law_bent ["text", "way", "kind", "at"] (defScope s__law_bent) := ⟨rfl, rfl, rfl, by decide +kernel, rfl, by decide +kernel, by decide +kernel⟩
abbrev s__law_other : Stmt := top 25
abbrev n__law_other : List Str := ["kind", "some"]
theorem sc__law_other : FnScope n__law_other ["kind"] (defScope s__law_other) := ⟨rfl, rfl, rfl, by decide +kernel, rfl, by decide +kernel, by decide +kernel⟩
abbrev s__law_right : Stmt := top 26
abbrev n__law_right : List Str := ["thing", "due", "found", "told", "refused", "e"]
theorem sc__law_right : FnScope n__law_right ["thing"] (defScope s__law_right) := ⟨rfl, rfl, rfl, by decide +kernel, rfl, by decide +kernel, by decide +kernel⟩
abbrev s__law_longer : Stmt := top 27
abbrev n__law_longer : List Str := ["one", "other", "product", "due", "text"]
theorem sc__law_longer : FnScope n__law_longer ["one", "other"] (defScope s__law_longer) := ⟨rfl, rfl, rfl, by decide +kernel, rfl, by decide +kernel, by decide +kernel⟩
abbrev s_law : Stmt := top 28
abbrev n_law : List Str := ["script", "ahead", "cell", "digits", "one", "text", "bent", "thing"]
theorem sc_law : FnScope n_law ["script"] (defScope s_law) := ⟨rfl, rfl, rfl, by decide +kernel, rfl, by decide +kernel, by decide +kernel⟩
/- builtins: ['ValueError', 'abs', 'bool', 'int', 'isinstance', 'len', 'max', 'range', 'str', 'tuple']; constants: ['FIGURES', 'MOST_FIGURES']; classes: ['CutError', 'NoText'] -/
structure Bl (mg : Str → Option Value) : Prop where
  abs : mg "abs" = none
  bool : mg "bool" = none
  int : mg "int" = none
  isinstance : mg "isinstance" = none
  len : mg "len" = none
  max : mg "max" = none
  range : mg "range" = none
  str : mg "str" = none
  tuple : mg "tuple" = none
  figures : ∃ t, mg "FIGURES" = some (.str "0123456789" t)
  most : ∃ t, mg "MOST_FIGURES" = some (.int 60 t)
abbrev fr (a b : Int) : PyData := .tuple [.int a, .int b]
section
variable {P : Program} {w : World} {K : PySem.W.Frag} {mg : Str → Option Value} {base : Heap}
def sp_divisor : FSp := fun as m Pq _ => ∃ a b : Int, as = [.dat (.int a), .dat (.int b)] ∧ Pq (.dat (.int (Int.gcd a b))) m
local macro_rules | `(tactic| walk_at "var") => `(tactic| first | ((with_reducible refine id_name "one" ?_); refine e_var (i := 0) rfl rfl ?_) | ((with_reducible refine id_name "other" ?_); refine e_var (i := 1) rfl rfl ?_))
local macro_rules | `(tactic| walk_at "set") => `(tactic| first | ((with_reducible refine id_sset "one" ?_); refine s_set (i := 0) (by assumption) rfl ?_) | ((with_reducible refine id_sset "other" ?_); refine s_set (i := 1) (by assumption) rfl ?_))
local macro_rules | `(tactic| walk_at "g1") => `(tactic| first | ((with_reducible refine id_gname "one" ?_); refine g_name (i := 0) (by assumption) rfl ?_) | ((with_reducible refine id_gname "other" ?_); refine g_name (i := 1) (by assumption) rfl ?_))
local macro_rules | `(tactic| walk_at "gs1") => `(tactic| first | ((with_reducible refine id_gsname "one" ?_); refine gs_name (i := 0) (by assumption) rfl ?_) | ((with_reducible refine id_gsname "other" ?_); refine gs_name (i := 1) (by assumption) rfl ?_))
theorem ok_divisor {f : Addr} {fd : FuncData} (B : Bl mg) (D : Dn K mg "divisor" s_divisor ["one", "other"] f fd) : Df P w K mg base 1 "divisor" ["one", "other"] sp_divisor := by
  refine Df.mk' D sc_divisor (fun as m P EP ⟨a, b, e, _⟩ => by rw [e]; rfl) ?_
  rintro cdv A outer s H E hr nd cm po as m Pq EP ⟨a, b, rfl, hP⟩
  have zabs := B.abs
  walk_at "q"
  refine s_while po (fun n δ m' => ∃ x y : Int, δ = [some (.dat (.int x)), some (.dat (.int y))] ∧ m' = m ∧ 0 ≤ x ∧ 0 ≤ y ∧ n = y.toNat ∧ Int.gcd x y = Int.gcd a b) ((if b < 0 then -b else b).toNat) ?_ ?_
  · exact ⟨_, _, rfl, rfl, by split <;> omega, by split <;> omega, rfl, gcd_absl⟩
  · rintro n δ m' ⟨x, y, rfl, rfl, hx, hy, rfl, hg⟩
    walk_at "q"
    refine ite2 (fun h => ?_) (fun h => ?_)
    · have hy0 : 0 < y := by simp [PyData.eqv] at h; omega
      walk_at "q"
      refine s_par (i := 0) (j := 1) cm nd rfl rfl ?_
      walk_at "q"
      · refine ⟨_, ?_, y, x % y, rfl, rfl, hy, Int.emod_nonneg _ (by omega), rfl, ?_⟩
        · have := Int.emod_lt_of_pos x hy0
          have := Int.emod_nonneg x (b := y) (by omega)
          omega
        · rw [gcd_step hx hy0, hg]
      · exact hy0
    · have hy0 : y = 0 := by simp [PyData.eqv] at h; omega
      subst hy0
      walk_at "q"
      rw [← hg, gcd_zero hx] at hP
      exact hP
def sp_lowest : FSp := fun as m Pq _ => ∃ a b : Int, as = [.dat (.int a), .dat (.int b)] ∧ 0 < b ∧ Lt2 2000 b ∧ Pq (.dat (fr (a / (Int.gcd a b : Nat)) (b / (Int.gcd a b : Nat)))) m
local macro_rules | `(tactic| walk_at "var") => `(tactic| first | ((with_reducible refine id_name "top" ?_); refine e_var (i := 0) rfl rfl ?_) | ((with_reducible refine id_name "bottom" ?_); refine e_var (i := 1) rfl rfl ?_) | ((with_reducible refine id_name "share" ?_); refine e_var (i := 2) rfl rfl ?_))
local macro_rules | `(tactic| walk_at "set") => `(tactic| first | ((with_reducible refine id_sset "top" ?_); refine s_set (i := 0) (by assumption) rfl ?_) | ((with_reducible refine id_sset "bottom" ?_); refine s_set (i := 1) (by assumption) rfl ?_) | ((with_reducible refine id_sset "share" ?_); refine s_set (i := 2) (by assumption) rfl ?_))
local macro_rules | `(tactic| walk_at "g1") => `(tactic| first | ((with_reducible refine id_gname "top" ?_); refine g_name (i := 0) (by assumption) rfl ?_) | ((with_reducible refine id_gname "bottom" ?_); refine g_name (i := 1) (by assumption) rfl ?_) | ((with_reducible refine id_gname "share" ?_); refine g_name (i := 2) (by assumption) rfl ?_))
local macro_rules | `(tactic| walk_at "gs1") => `(tactic| first | ((with_reducible refine id_gsname "top" ?_); refine gs_name (i := 0) (by assumption) rfl ?_) | ((with_reducible refine id_gsname "bottom" ?_); refine gs_name (i := 1) (by assumption) rfl ?_) | ((with_reducible refine id_gsname "share" ?_); refine gs_name (i := 2) (by assumption) rfl ?_))
theorem ok_lowest {f : Addr} {fd : FuncData} (B : Bl mg) (Fd : Df P w K mg base 1 "divisor" ["one", "other"] sp_divisor) (D : Dn K mg "lowest" s_lowest ["top", "bottom"] f fd) : Df P w K mg base 2 "lowest" ["top", "bottom"] sp_lowest := by
  refine Df.mk' D sc_lowest (fun as m P EP ⟨a, b, e, _⟩ => by rw [e]; rfl) ?_
  rintro cdv A outer s H E hr nd cm po as m Pq EP ⟨a, b, rfl, hb, hb2, hP⟩
  have hg := gcd_pos (a := a) hb
  have hg2 : Lt2 2000 ((Int.gcd a b : Nat) : Int) := Lt2.le hb2 (by have := gcd_le (a := a) hb; omega)
  walk_at "q"
  refine e_call Fd hr ?_
  walk_at "q"
  refine ⟨a, b, rfl, ?_⟩
  walk_at "q"
  refine ite2 (fun h => absurd h (by simp; omega)) (fun _ => ?_)
  walk_at "q"
  · exact hP
  · exact ⟨hg, Nat.lt_trans (hg2.log (by decide)) (by decide)⟩
  · exact ⟨hg, Nat.lt_trans (hg2.log (by decide)) (by decide)⟩
def sp_times : FSp := fun as m Pq _ => ∃ a b c d : Int, as = [.dat (fr a b), .dat (fr c d)] ∧ 0 < b ∧ 0 < d ∧ Lt2 900 a ∧ Lt2 900 b ∧ Lt2 900 c ∧ Lt2 900 d ∧
  Pq (.dat (fr (a * c / (Int.gcd (a * c) (b * d) : Nat)) (b * d / (Int.gcd (a * c) (b * d) : Nat)))) m
theorem mul_ok {n k : Nat} {i j : Int} (h1 : Lt2 n i) (h2 : Lt2 k j) (h3 : 0 < n) (h4 : 0 < k) (h : n + k ≤ 1000000) : CMulW i j := wide_mul h1 h2 h3 h4 h
local macro_rules | `(tactic| walk_at "var") => `(tactic| first | ((with_reducible refine id_name "one" ?_); refine e_var (i := 0) rfl rfl ?_) | ((with_reducible refine id_name "other" ?_); refine e_var (i := 1) rfl rfl ?_))
local macro_rules | `(tactic| walk_at "set") => `(tactic| first | ((with_reducible refine id_sset "one" ?_); refine s_set (i := 0) (by assumption) rfl ?_) | ((with_reducible refine id_sset "other" ?_); refine s_set (i := 1) (by assumption) rfl ?_))
local macro_rules | `(tactic| walk_at "g1") => `(tactic| first | ((with_reducible refine id_gname "one" ?_); refine g_name (i := 0) (by assumption) rfl ?_) | ((with_reducible refine id_gname "other" ?_); refine g_name (i := 1) (by assumption) rfl ?_))
local macro_rules | `(tactic| walk_at "gs1") => `(tactic| first | ((with_reducible refine id_gsname "one" ?_); refine gs_name (i := 0) (by assumption) rfl ?_) | ((with_reducible refine id_gsname "other" ?_); refine gs_name (i := 1) (by assumption) rfl ?_))
theorem ok_times {f : Addr} {fd : FuncData} (Fl : Df P w K mg base 2 "lowest" ["top", "bottom"] sp_lowest) (D : Dn K mg "times" s_times ["one", "other"] f fd) : Df P w K mg base 3 "times" ["one", "other"] sp_times := by
  refine Df.mk' D sc_times (fun as m P EP ⟨_, _, _, _, e, _⟩ => by rw [e]; rfl) ?_
  rintro cdv A outer s H E hr nd cm po as m Pq EP ⟨a, b, c, d, rfl, hb, hd, ha2, hb2, hc2, hd2, hP⟩
  walk_at "q"
  refine e_call Fl hr ?_
  walk_at "q"
  · exact ⟨_, _, rfl, Int.mul_pos hb hd, (hb2.mul hd2).mono (by decide), hP⟩
  · exact mul_ok ha2 hc2 (by decide) (by decide) (by decide)
  · exact mul_ok hb2 hd2 (by decide) (by decide) (by decide)
/-- a fraction's writing -/
def shR (a b : Int) : Str := if b = 1 then Str.ofString (toString a) else Str.ofString (toString a) ++ "/" ++ Str.ofString (toString b)
def sp_shown_ratio : FSp := fun as m Pq _ => ∃ a b : Int, as = [.dat (fr a b)] ∧ Lt2 1900 a ∧ Lt2 1900 b ∧ Pq (.dat (.str (shR a b))) m
local macro_rules | `(tactic| walk_at "var") => `(tactic| first | ((with_reducible refine id_name "one" ?_); refine e_var (i := 0) rfl rfl ?_))
local macro_rules | `(tactic| walk_at "set") => `(tactic| first | ((with_reducible refine id_sset "one" ?_); refine s_set (i := 0) (by assumption) rfl ?_))
local macro_rules | `(tactic| walk_at "g1") => `(tactic| first | ((with_reducible refine id_gname "one" ?_); refine g_name (i := 0) (by assumption) rfl ?_))
local macro_rules | `(tactic| walk_at "gs1") => `(tactic| first | ((with_reducible refine id_gsname "one" ?_); refine gs_name (i := 0) (by assumption) rfl ?_))
theorem ok_shown_ratio {f : Addr} {fd : FuncData} (B : Bl mg) (D : Dn K mg "shown_ratio" s_shown_ratio ["one"] f fd) : Df P w K mg base 1 "shown_ratio" ["one"] sp_shown_ratio := by
  refine Df.mk' D sc_shown_ratio (fun as m P EP ⟨_, _, e, _⟩ => by rw [e]; rfl) ?_
  rintro cdv A outer s H E hr nd cm po as m Pq EP ⟨a, b, rfl, ha, hb, hP⟩
  have zstr := B.str
  have la := text_len ha
  have lb := text_len hb
  walk_at "q"
  unfold shR at hP
  refine ite2 (fun h => ?_) (fun h => ?_)
  · rw [if_pos (by simpa [PyData.eqv] using h)] at hP
    walk_at "q"
    · exact hP
    · exact Nat.lt_trans (ha.log (by decide)) (by decide)
  · rw [if_neg (by simpa [PyData.eqv] using h)] at hP
    walk_at "q"
    · show Pq (.dat (.str (Str.empty ++ Str.ofString (toString a) ++ "/" ++ Str.ofString (toString b)))) m
      rw [Str.empty_append]
      exact hP
    all_goals first | exact Nat.lt_trans (ha.log (by decide)) (by decide) | exact Nat.lt_trans (hb.log (by decide)) (by decide) | walk_at "len"
def sp__law_written : FSp := sp_shown_ratio
local macro_rules | `(tactic| walk_at "var") => `(tactic| first | ((with_reducible refine id_name "one" ?_); refine e_var (i := 0) rfl rfl ?_))
local macro_rules | `(tactic| walk_at "set") => `(tactic| first | ((with_reducible refine id_sset "one" ?_); refine s_set (i := 0) (by assumption) rfl ?_))
local macro_rules | `(tactic| walk_at "g1") => `(tactic| first | ((with_reducible refine id_gname "one" ?_); refine g_name (i := 0) (by assumption) rfl ?_))
local macro_rules | `(tactic| walk_at "gs1") => `(tactic| first | ((with_reducible refine id_gsname "one" ?_); refine gs_name (i := 0) (by assumption) rfl ?_))
theorem ok__law_written {f : Addr} {fd : FuncData} (B : Bl mg) (D : Dn K mg "_law_written" s__law_written ["one"] f fd) : Df P w K mg base 1 "_law_written" ["one"] sp_shown_ratio := by
  refine Df.mk' D sc__law_written (fun as m P EP ⟨_, _, e, _⟩ => by rw [e]; rfl) ?_
  rintro cdv A outer s H E hr nd cm po as m Pq EP ⟨a, b, rfl, ha, hb, hP⟩
  have zstr := B.str
  have la := text_len ha
  have lb := text_len hb
  walk_at "q"
  unfold shR at hP
  refine ite2 (fun h => ?_) (fun h => ?_)
  · rw [if_pos (by simpa [PyData.eqv] using h)] at hP
    walk_at "q"
    · exact hP
    · exact Nat.lt_trans (ha.log (by decide)) (by decide)
  · rw [if_neg (by simpa [PyData.eqv] using h)] at hP
    walk_at "q"
    · exact hP
    all_goals first | exact Nat.lt_trans (ha.log (by decide)) (by decide) | exact Nat.lt_trans (hb.log (by decide)) (by decide) | walk_at "len"
def isInt (d : PyData) : Bool := d_int d && !d_bool d
def sp__law_whole : FSp := fun as m Pq _ => ∃ d : PyData, as = [.dat d] ∧ Pq (.dat (.bool (isInt d))) m
local macro_rules | `(tactic| walk_at "var") => `(tactic| first | ((with_reducible refine id_name "thing" ?_); refine e_var (i := 0) rfl rfl ?_))
local macro_rules | `(tactic| walk_at "set") => `(tactic| first | ((with_reducible refine id_sset "thing" ?_); refine s_set (i := 0) (by assumption) rfl ?_))
local macro_rules | `(tactic| walk_at "g1") => `(tactic| first | ((with_reducible refine id_gname "thing" ?_); refine g_name (i := 0) (by assumption) rfl ?_))
local macro_rules | `(tactic| walk_at "gs1") => `(tactic| first | ((with_reducible refine id_gsname "thing" ?_); refine gs_name (i := 0) (by assumption) rfl ?_))
theorem ok__law_whole {f : Addr} {fd : FuncData} (B : Bl mg) (D : Dn K mg "_law_whole" s__law_whole ["thing"] f fd) : Df P w K mg base 1 "_law_whole" ["thing"] sp__law_whole := by
  refine Df.mk' D sc__law_whole (fun as m P EP ⟨_, e, _⟩ => by rw [e]; rfl) ?_
  rintro cdv A outer s H E hr nd cm po as m Pq EP ⟨d, rfl, hP⟩
  have z1 := B.isinstance
  have z2 := B.int
  have z3 := B.bool
  walk_at "q"
  unfold isInt at hP
  cases h : d_int d with
  | true =>
    rw [h] at hP
    refine iteT ?_
    walk_at "q"
    exact hP
  | false =>
    rw [h] at hP
    exact iteF hP
end
end KK
set_option maxHeartbeats 4000000
namespace KK
open PySem PySem.Spec PyProof.Rows L2 QQ
local macro_rules | `(tactic| walk_at "o2") => `(tactic| first
  | refine o_add_int ?_
  | refine o_sub ?_
  | refine o_cmp ?_
  | refine o_isN ?_
  | refine o_notN ?_
  | refine o_eqS rfl ?_
  | refine o_neS rfl ?_
  | (refine o_add_str ?_ ?_; rotate_left)
  | (refine o_add_lst ?_ ?_; rotate_left)
  | (refine o_mul ?_ ?_; rotate_left)
  | (refine o_mul_str ?_ ?_; rotate_left)
  | (refine o_I ?_ ?_; rotate_left)
  | refine o_inSign ?_
  | refine o_notInSign ?_
  | refine o_ix_tup rfl ?_
  | refine o_ix_lst rfl ?_
  | refine o_ix_fz rfl ?_
  | refine o_ix_own rfl rfl ?_
  | (refine o_ix_str' ?_ ?_ ?_; rotate_left 2)
  | (refine o_ix_lst' ?_ ?_; rotate_left)
  | (refine o_ix_tup' ?_ ?_; rotate_left)
  | (refine o_ix_fz' ?_ ?_; rotate_left)
  | (refine o_eq ?_ ?_ ?_; rotate_left 2)
  | (refine o_ne ?_ ?_ ?_; rotate_left 2))
local macro_rules | `(tactic| walk_at "os") => `(tactic| first
  | (refine sl_str' ?_ ?_; rotate_left)
  | refine sl_lst' ?_
  | refine sl_fz' ?_
  | (refine sl_tup' ?_ ?_; rotate_left))
local macro_rules | `(tactic| walk_at "oa") => `(tactic| first
  | refine o_len_lst ?_
  | refine o_len_tup ?_
  | refine o_len_fz ?_
  | (refine o_len_str ?_ ?_; rotate_left)
  | refine o_len_own rfl ?_
  | refine o_abs ?_
  | refine o_max2 ?_
  | refine o_min2 ?_
  | refine o_int_bl ?_
  | (refine o_int_str ?_ ?_ ?_; rotate_left 2)
  | (refine o_str ?_ ?_; rotate_left)
  | refine o_isi_int ?_
  | refine o_isi_bool ?_
  | refine o_isi_str ?_
  | refine o_isi_tuple ?_
  | refine o_isi_list ?_
  | refine o_isi_dict ?_)
local macro_rules | `(tactic| walk_at "ee") => `(tactic| first
  | ((with_reducible refine id_name _ ?_); walk_at "var")
  | ((with_reducible refine id_const ?_); first | refine e_int ?_ | refine e_str ?_ | refine e_non ?_ | refine e_bl ?_)
  | ((with_reducible refine id_subs ?_); first | refine e_slice ?_ | refine e_sub ix_seq ?_)
  | ((with_reducible refine id_bin .Add ?_); refine e_bin (op := .Add) op_addA ?_)
  | ((with_reducible refine id_bin .Sub ?_); refine e_bin (op := .Sub) op_sub ?_)
  | ((with_reducible refine id_bin .Mult ?_); refine e_bin (op := .Mult) op_mulA ?_)
  | ((with_reducible refine id_bin .FloorDiv ?_); refine e_bin (op := .FloorDiv) op_fdivW ?_)
  | ((with_reducible refine id_bin .Mod ?_); refine e_bin (op := .Mod) op_mod ?_)
  | ((with_reducible refine id_bin .Pow ?_); refine e_bin (op := .Pow) op_pow ?_)
  | ((with_reducible refine id_cmp .Lt ?_); refine e_cmp (op := .Lt) op_lt ?_)
  | ((with_reducible refine id_cmp .LtE ?_); refine e_cmp (op := .LtE) op_le ?_)
  | ((with_reducible refine id_cmp .Gt ?_); refine e_cmp (op := .Gt) op_gt ?_)
  | ((with_reducible refine id_cmp .GtE ?_); refine e_cmp (op := .GtE) op_ge ?_)
  | ((with_reducible refine id_cmp .Is ?_); refine e_cmp (op := .Is) op_isN ?_)
  | ((with_reducible refine id_cmp .IsNot ?_); refine e_cmp (op := .IsNot) op_notN ?_)
  | ((with_reducible refine id_cmp .Eq ?_); refine e_cmp (op := .Eq) (op_eqA (Room.units (by assumption))) ?_)
  | ((with_reducible refine id_cmp .NotEq ?_); refine e_cmp (op := .NotEq) (op_neA (Room.units (by assumption))) ?_)
  | ((with_reducible refine id_cmp .In ?_); refine e_cmp (op := .In) op_in_sign ?_)
  | ((with_reducible refine id_cmp .NotIn ?_); refine e_cmp (op := .NotIn) op_notIn_sign ?_)
  | ((with_reducible refine id_calln "len" ?_); refine e_len (by assumption) ?_)
  | ((with_reducible refine id_calln "abs" ?_); refine e_abs (by assumption) ?_)
  | ((with_reducible refine id_calln "int" ?_); refine e_intc (by assumption) ?_)
  | ((with_reducible refine id_calln "str" ?_); refine e_strc (by assumption) ?_)
  | ((with_reducible refine id_calln "max" ?_); refine e_max (by assumption) (by assumption) ?_)
  | ((with_reducible refine id_calln "min" ?_); refine e_min (by assumption) (by assumption) ?_)
  | ((with_reducible refine id_calln "isinstance" ?_); first | refine e_isi (T := "int") (n := "int") (by assumption) (by assumption) ?_ | refine e_isi (T := "bool") (n := "bool") (by assumption) (by assumption) ?_ | refine e_isi (T := "str") (n := "str") (by assumption) (by assumption) ?_ | refine e_isi (T := "tuple") (n := "tuple") (by assumption) (by assumption) ?_ | refine e_isi (T := "list") (n := "list") (by assumption) (by assumption) ?_ | refine e_isi (T := "dict") (n := "dict") (by assumption) (by assumption) ?_)
  | ((with_reducible refine id_callm "partition" ?_); refine e_part ?_)
  | ((with_reducible refine id_callm "split" ?_); refine e_split ?_)
  | ((with_reducible refine id_callm "join" ?_); refine e_join ?_)
  | ((with_reducible refine id_callm "append" ?_); refine e_append ?_)
  | ((with_reducible refine id_bool ?_); first | refine e_one ?_ | refine e_and ?_ | refine e_or ?_)
  | ((with_reducible refine id_un .Not ?_); refine e_not ?_)
  | ((with_reducible refine id_un .USub ?_); refine e_un (op := .USub) un_neg ?_)
  | refine e_tup ?_
  | refine e_fmt ?_
  | refine e_joined ?_
  | refine e_ifExp ?_)
local macro_rules | `(tactic| walk_at "et") => `(tactic| first
  | ((with_reducible refine id_tnot ?_); refine t_not ?_)
  | ((with_reducible refine id_tbool ?_); first | refine t_w (w_and ?_) | refine t_w (w_or ?_))
  | ((with_reducible refine id_tcmp .Lt ?_); refine t_cmp (op := .Lt) op_lt ?_)
  | ((with_reducible refine id_tcmp .LtE ?_); refine t_cmp (op := .LtE) op_le ?_)
  | ((with_reducible refine id_tcmp .Gt ?_); refine t_cmp (op := .Gt) op_gt ?_)
  | ((with_reducible refine id_tcmp .GtE ?_); refine t_cmp (op := .GtE) op_ge ?_)
  | ((with_reducible refine id_tcmp .Is ?_); refine t_cmp (op := .Is) op_isN ?_)
  | ((with_reducible refine id_tcmp .IsNot ?_); refine t_cmp (op := .IsNot) op_notN ?_)
  | ((with_reducible refine id_tcmp .Eq ?_); refine t_cmp (op := .Eq) (op_eqA (Room.units (by assumption))) ?_)
  | ((with_reducible refine id_tcmp .NotEq ?_); refine t_cmp (op := .NotEq) (op_neA (Room.units (by assumption))) ?_)
  | ((with_reducible refine id_tcmp .In ?_); refine t_cmp (op := .In) op_in_sign ?_)
  | ((with_reducible refine id_tcmp .NotIn ?_); refine t_cmp (op := .NotIn) op_notIn_sign ?_)
  | ((with_reducible refine id_tcmp2 ?_); first | refine t_chain (op := .LtE) (op' := .LtE) op_le op_le ?_ | refine t_chain (op := .LtE) (op' := .Lt) op_le op_lt ?_ | refine t_chain (op := .Lt) (op' := .Lt) op_lt op_lt ?_)
  | refine t_val ?_)
local macro_rules | `(tactic| walk_at "ew") => `(tactic| first
  | refine w_and1 ?_
  | refine w_or1 ?_
  | refine w_and ?_
  | refine w_or ?_)
local macro_rules | `(tactic| walk_at "es") => `(tactic| first
  | ((with_reducible refine id_sret ?_); refine s_ret ?_)
  | ((with_reducible refine id_sif ?_); refine s_if ?_)
  | ((with_reducible refine id_sset _ ?_); walk_at "set")
  | ((with_reducible refine id_sasg ?_); refine s_asg ?_)
  | ((with_reducible refine id_sexpr ?_); refine s_expr ?_)
  | refine s_retN ?_
  | refine s_pass ?_)
local macro_rules | `(tactic| walk_at "q1") => `(tactic| first
  | ((with_reducible refine id_e ?_); walk_at "ee")
  | ((with_reducible refine id_o2 ?_); walk_at "o2")
  | ((with_reducible refine id_b ?_); first | refine b_cons ?_ | refine b_nil ?_)
  | ((with_reducible refine id_s ?_); walk_at "es")
  | ((with_reducible refine id_t ?_); walk_at "et")
  | ((with_reducible refine id_w ?_); walk_at "ew")
  | ((with_reducible refine id_a ?_); first | refine a_cons ?_ | refine a_nil ?_)
  | ((with_reducible refine id_oa ?_); walk_at "oa")
  | ((with_reducible refine id_os ?_); walk_at "os")
  | ((with_reducible refine id_p ?_); first | refine p_none ?_ | refine p_some ?_)
  | ((with_reducible refine id_gs ?_); first | refine gs_nil ?_ | walk_at "gs1")
  | ((with_reducible refine id_g ?_); first | walk_at "g1" | refine g_tup (by assumption) ?_ | refine g_unl (by assumption) ?_)
  | (with_reducible refine iteT ?_)
  | (with_reducible refine iteF ?_)
  | refine j_cons ?_
  | refine j_nil ?_
  | (refine o_fmt_int ?_ ?_; rotate_left)
  | (refine o_fmt_str ?_ ?_; rotate_left)
  | refine o_T rfl (Nat.le_of_ble_eq_true rfl) ?_
  | (refine o_part rfl ?_ ?_; rotate_left)
  | (refine o_split rfl ?_ ?_; rotate_left)
  | (refine o_j ?_ ?_; rotate_left)
  | (refine o_app (by assumption) ?_ ?_; rotate_left)
  | refine ⟨_, rfl, ?_⟩)
local macro_rules | `(tactic| walk_at "q") => `(tactic| repeat walk_at "q1")
local macro_rules | `(tactic| walk_at "qs") => `(tactic| repeat' (first | walk_at "q1" | refine ite2 (fun _ => ?_) (fun _ => ?_)))
local macro_rules | `(tactic| walk_at "len") => `(tactic| ((try simp only [Str.empty_append, Str.length_append]); (try (have : ("/" : Str).length = 1 := rfl)); omega))
section
variable {P : Program} {w : World} {K : PySem.W.Frag} {mg : Str → Option Value} {base : Heap}
def oInt : Option Int → AV
  | none => .dat .none
  | some n => .dat (.int n)
def sp_whole_in : FSp := fun as m Pq _ => ∃ z : Str, as = [.dat (.str z)] ∧ z.length ≤ 100000 ∧ Pq (oInt (wholeL z.cps.toList)) m
local macro_rules | `(tactic| walk_at "var") => `(tactic| first | ((with_reducible refine id_name "signs" ?_); refine e_var (i := 0) rfl rfl ?_) | ((with_reducible refine id_name "sign" ?_); refine e_var (i := 1) rfl rfl ?_))
local macro_rules | `(tactic| walk_at "set") => `(tactic| first | ((with_reducible refine id_sset "signs" ?_); refine s_set (i := 0) (by assumption) rfl ?_) | ((with_reducible refine id_sset "sign" ?_); refine s_set (i := 1) (by assumption) rfl ?_))
local macro_rules | `(tactic| walk_at "g1") => `(tactic| first | ((with_reducible refine id_gname "signs" ?_); refine g_name (i := 0) (by assumption) rfl ?_) | ((with_reducible refine id_gname "sign" ?_); refine g_name (i := 1) (by assumption) rfl ?_))
local macro_rules | `(tactic| walk_at "gs1") => `(tactic| first | ((with_reducible refine id_gsname "signs" ?_); refine gs_name (i := 0) (by assumption) rfl ?_) | ((with_reducible refine id_gsname "sign" ?_); refine gs_name (i := 1) (by assumption) rfl ?_))
theorem ok_whole_in {f : Addr} {fd : FuncData} (B : Bl mg) (D : Dn K mg "whole_in" s_whole_in ["signs"] f fd) : Df P w K mg base 1 "whole_in" ["signs"] sp_whole_in := by
  refine Df.mk' D sc_whole_in (fun as m P EP ⟨_, e, _⟩ => by rw [e]; rfl) ?_
  rintro cdv A outer s H E hr nd cm po as m Pq EP ⟨z, rfl, hz, hP⟩
  have z1 := B.len
  have z2 := B.int
  obtain ⟨_, z3⟩ := B.figures
  obtain ⟨_, z4⟩ := B.most
  have el : z.cps.toList.length = z.length := Array.length_toList
  walk_at "q1"
  refine s_ifD (badL z.cps.toList) ?_ ?_
  · walk_at "qs"
    all_goals (try (refine e_glob (v := .int 60) (av := .dat (.int 60)) z4 ⟨_, rfl⟩ (fun _ => Rp.int _) ?_; walk_at "qs"))
    all_goals first | omega | exact ⟨by omega, by omega⟩ | refine ⟨rfl, ?_⟩ | skip
    all_goals ((try simp only [eqv_strL, zero_str] at *); simp only [decide_eq_true_eq, Bool.not_eq_true', decide_eq_false_iff_not] at *; generalize z.cps.toList = l at *; cases l with
      | nil => first | omega | (exfalso; simp only [List.length_nil] at el; omega) | (exfalso; simp_all; done) | (exfalso; simp_all; omega) | (unfold badL; simp; done)
      | cons c r => simp only [List.length_cons, List.getD_cons_zero, Int.toNat_zero] at *; first | omega | exact ⟨by omega, by omega⟩ | (unfold badL; grind))
  · refine ite2 (fun h1 => ?_) (fun h1 => ?_)
    · walk_at "q"
      unfold wholeL at hP
      rw [if_pos h1] at hP
      exact hP
    · unfold wholeL at hP
      rw [if_neg h1] at hP
      have hlen : z.length ≤ 60 ∧ z.cps.toList ≠ [] := by
        simp only [badL, Bool.or_eq_true, decide_eq_true_eq, not_or] at h1
        exact ⟨by omega, h1.1.1⟩
      walk_at "q"
      refine s_forS po cm ?_
      walk_at "q"
      refine ⟨⟨fun k δ m' => (∃ v, δ = [some (.dat (.str z)), v]) ∧ m' = m ∧ figs (z.cps.toList.take k) = true, ⟨⟨_, rfl⟩, rfl, rfl⟩, ?_, ?_⟩⟩
      · rintro k d δ' m' hd ⟨⟨v, rfl⟩, rfl, hf⟩
        obtain ⟨c, hc, rfl⟩ : ∃ c, z.cps.toList[k]? = some c ∧ d = .str ⟨#[c]⟩ := by
          unfold sgns at hd
          rw [List.getElem?_map] at hd
          cases e : z.cps.toList[k]? with
          | none => rw [e] at hd; cases hd
          | some c => rw [e] at hd; exact ⟨c, rfl, (Option.some.inj hd).symm⟩
        walk_at "q"
        refine e_glob (v := .str "0123456789") (av := .dat (.str "0123456789")) z3 ⟨_, rfl⟩ (fun _ => Rp.str _) ?_
        walk_at "q"
        rw [figs_str]
        refine ite2 (fun h2 => ?_) (fun h2 => ?_)
        · walk_at "q"
          have hn : figs z.cps.toList = false := by
            cases e : figs z.cps.toList with
            | false => rfl
            | true =>
              have := List.all_eq_true.mp e c (List.mem_of_getElem? hc)
              simp_all
          rw [if_neg (by rw [hn]; decide)] at hP
          exact hP
        · walk_at "q"
          refine ⟨⟨_, rfl⟩, rfl, ?_⟩
          unfold figs at hf ⊢
          rw [List.take_succ, hc, List.all_append, hf]
          simp only [Bool.not_eq_true', decide_eq_false_iff_not, Classical.not_not] at h2
          simp only [Option.toList_some, List.all_cons, List.all_nil, decide_eq_true h2, Bool.and_true, Bool.and_self]
      · rintro δ' m' ⟨⟨v, rfl⟩, rfl, hf⟩
        have e1 : (sgns z).length = z.cps.toList.length := by simp [sgns]
        rw [e1, List.take_length] at hf
        rw [if_pos hf] at hP
        walk_at "q"
        refine o_int_str (PySem.intText_digits (figs_digits hf) hlen.2 (by omega)) (by omega) ?_
        exact hP
end
end KK
set_option maxHeartbeats 4000000
namespace KK
open PySem PySem.Spec PyProof.Rows L2 QQ
local macro_rules | `(tactic| walk_at "o2") => `(tactic| first
  | refine o_add_int ?_
  | refine o_sub ?_
  | refine o_cmp ?_
  | refine o_isN ?_
  | refine o_notN ?_
  | refine o_eqS rfl ?_
  | refine o_neS rfl ?_
  | (refine o_add_str ?_ ?_; rotate_left)
  | (refine o_add_lst ?_ ?_; rotate_left)
  | (refine o_mul ?_ ?_; rotate_left)
  | (refine o_mul_str ?_ ?_; rotate_left)
  | (refine o_I ?_ ?_; rotate_left)
  | refine o_inSign ?_
  | refine o_notInSign ?_
  | refine o_ix_tup rfl ?_
  | refine o_ix_lst rfl ?_
  | refine o_ix_fz rfl ?_
  | refine o_ix_own rfl rfl ?_
  | (refine o_ix_str' ?_ ?_ ?_; rotate_left 2)
  | (refine o_ix_lst' ?_ ?_; rotate_left)
  | (refine o_ix_tup' ?_ ?_; rotate_left)
  | (refine o_ix_fz' ?_ ?_; rotate_left)
  | (refine o_eq ?_ ?_ ?_; rotate_left 2)
  | (refine o_ne ?_ ?_ ?_; rotate_left 2))
local macro_rules | `(tactic| walk_at "os") => `(tactic| first
  | (refine sl_str' ?_ ?_; rotate_left)
  | refine sl_lst' ?_
  | refine sl_fz' ?_
  | (refine sl_tup' ?_ ?_; rotate_left))
local macro_rules | `(tactic| walk_at "oa") => `(tactic| first
  | refine o_len_lst ?_
  | refine o_len_tup ?_
  | refine o_len_fz ?_
  | (refine o_len_str ?_ ?_; rotate_left)
  | refine o_len_own rfl ?_
  | refine o_abs ?_
  | refine o_max2 ?_
  | refine o_min2 ?_
  | refine o_int_bl ?_
  | (refine o_int_str ?_ ?_ ?_; rotate_left 2)
  | (refine o_str ?_ ?_; rotate_left)
  | refine o_isi_int ?_
  | refine o_isi_bool ?_
  | refine o_isi_str ?_
  | refine o_isi_tuple ?_
  | refine o_isi_list ?_
  | refine o_isi_dict ?_)
local macro_rules | `(tactic| walk_at "ee") => `(tactic| first
  | ((with_reducible refine id_name _ ?_); walk_at "var")
  | ((with_reducible refine id_const ?_); first | refine e_int ?_ | refine e_str ?_ | refine e_non ?_ | refine e_bl ?_)
  | ((with_reducible refine id_subs ?_); first | refine e_slice ?_ | refine e_sub ix_seq ?_)
  | ((with_reducible refine id_bin .Add ?_); refine e_bin (op := .Add) op_addA ?_)
  | ((with_reducible refine id_bin .Sub ?_); refine e_bin (op := .Sub) op_sub ?_)
  | ((with_reducible refine id_bin .Mult ?_); refine e_bin (op := .Mult) op_mulA ?_)
  | ((with_reducible refine id_bin .FloorDiv ?_); refine e_bin (op := .FloorDiv) op_fdivW ?_)
  | ((with_reducible refine id_bin .Mod ?_); refine e_bin (op := .Mod) op_mod ?_)
  | ((with_reducible refine id_bin .Pow ?_); refine e_bin (op := .Pow) op_pow ?_)
  | ((with_reducible refine id_cmp .Lt ?_); refine e_cmp (op := .Lt) op_lt ?_)
  | ((with_reducible refine id_cmp .LtE ?_); refine e_cmp (op := .LtE) op_le ?_)
  | ((with_reducible refine id_cmp .Gt ?_); refine e_cmp (op := .Gt) op_gt ?_)
  | ((with_reducible refine id_cmp .GtE ?_); refine e_cmp (op := .GtE) op_ge ?_)
  | ((with_reducible refine id_cmp .Is ?_); refine e_cmp (op := .Is) op_isN ?_)
  | ((with_reducible refine id_cmp .IsNot ?_); refine e_cmp (op := .IsNot) op_notN ?_)
  | ((with_reducible refine id_cmp .Eq ?_); refine e_cmp (op := .Eq) (op_eqA (Room.units (by assumption))) ?_)
  | ((with_reducible refine id_cmp .NotEq ?_); refine e_cmp (op := .NotEq) (op_neA (Room.units (by assumption))) ?_)
  | ((with_reducible refine id_cmp .In ?_); refine e_cmp (op := .In) op_in_sign ?_)
  | ((with_reducible refine id_cmp .NotIn ?_); refine e_cmp (op := .NotIn) op_notIn_sign ?_)
  | ((with_reducible refine id_calln "len" ?_); refine e_len (by assumption) ?_)
  | ((with_reducible refine id_calln "abs" ?_); refine e_abs (by assumption) ?_)
  | ((with_reducible refine id_calln "int" ?_); refine e_intc (by assumption) ?_)
  | ((with_reducible refine id_calln "str" ?_); refine e_strc (by assumption) ?_)
  | ((with_reducible refine id_calln "max" ?_); refine e_max (by assumption) (by assumption) ?_)
  | ((with_reducible refine id_calln "min" ?_); refine e_min (by assumption) (by assumption) ?_)
  | ((with_reducible refine id_calln "isinstance" ?_); first | refine e_isi (T := "int") (n := "int") (by assumption) (by assumption) ?_ | refine e_isi (T := "bool") (n := "bool") (by assumption) (by assumption) ?_ | refine e_isi (T := "str") (n := "str") (by assumption) (by assumption) ?_ | refine e_isi (T := "tuple") (n := "tuple") (by assumption) (by assumption) ?_ | refine e_isi (T := "list") (n := "list") (by assumption) (by assumption) ?_ | refine e_isi (T := "dict") (n := "dict") (by assumption) (by assumption) ?_)
  | ((with_reducible refine id_callm "partition" ?_); refine e_part ?_)
  | ((with_reducible refine id_callm "split" ?_); refine e_split ?_)
  | ((with_reducible refine id_callm "join" ?_); refine e_join ?_)
  | ((with_reducible refine id_callm "append" ?_); refine e_append ?_)
  | ((with_reducible refine id_bool ?_); first | refine e_one ?_ | refine e_and ?_ | refine e_or ?_)
  | ((with_reducible refine id_un .Not ?_); refine e_not ?_)
  | ((with_reducible refine id_un .USub ?_); refine e_un (op := .USub) un_neg ?_)
  | refine e_tup ?_
  | refine e_fmt ?_
  | refine e_joined ?_
  | refine e_ifExp ?_)
local macro_rules | `(tactic| walk_at "et") => `(tactic| first
  | ((with_reducible refine id_tnot ?_); refine t_not ?_)
  | ((with_reducible refine id_tbool ?_); first | refine t_w (w_and ?_) | refine t_w (w_or ?_))
  | ((with_reducible refine id_tcmp .Lt ?_); refine t_cmp (op := .Lt) op_lt ?_)
  | ((with_reducible refine id_tcmp .LtE ?_); refine t_cmp (op := .LtE) op_le ?_)
  | ((with_reducible refine id_tcmp .Gt ?_); refine t_cmp (op := .Gt) op_gt ?_)
  | ((with_reducible refine id_tcmp .GtE ?_); refine t_cmp (op := .GtE) op_ge ?_)
  | ((with_reducible refine id_tcmp .Is ?_); refine t_cmp (op := .Is) op_isN ?_)
  | ((with_reducible refine id_tcmp .IsNot ?_); refine t_cmp (op := .IsNot) op_notN ?_)
  | ((with_reducible refine id_tcmp .Eq ?_); refine t_cmp (op := .Eq) (op_eqA (Room.units (by assumption))) ?_)
  | ((with_reducible refine id_tcmp .NotEq ?_); refine t_cmp (op := .NotEq) (op_neA (Room.units (by assumption))) ?_)
  | ((with_reducible refine id_tcmp .In ?_); refine t_cmp (op := .In) op_in_sign ?_)
  | ((with_reducible refine id_tcmp .NotIn ?_); refine t_cmp (op := .NotIn) op_notIn_sign ?_)
  | ((with_reducible refine id_tcmp2 ?_); first | refine t_chain (op := .LtE) (op' := .LtE) op_le op_le ?_ | refine t_chain (op := .LtE) (op' := .Lt) op_le op_lt ?_ | refine t_chain (op := .Lt) (op' := .Lt) op_lt op_lt ?_)
  | refine t_val ?_)
local macro_rules | `(tactic| walk_at "ew") => `(tactic| first
  | refine w_and1 ?_
  | refine w_or1 ?_
  | refine w_and ?_
  | refine w_or ?_)
local macro_rules | `(tactic| walk_at "es") => `(tactic| first
  | ((with_reducible refine id_sret ?_); refine s_ret ?_)
  | ((with_reducible refine id_sif ?_); refine s_if ?_)
  | ((with_reducible refine id_sset _ ?_); walk_at "set")
  | ((with_reducible refine id_sasg ?_); refine s_asg ?_)
  | ((with_reducible refine id_sexpr ?_); refine s_expr ?_)
  | refine s_retN ?_
  | refine s_pass ?_)
local macro_rules | `(tactic| walk_at "q1") => `(tactic| first
  | ((with_reducible refine id_e ?_); walk_at "ee")
  | ((with_reducible refine id_o2 ?_); walk_at "o2")
  | ((with_reducible refine id_b ?_); first | refine b_cons ?_ | refine b_nil ?_)
  | ((with_reducible refine id_s ?_); walk_at "es")
  | ((with_reducible refine id_t ?_); walk_at "et")
  | ((with_reducible refine id_w ?_); walk_at "ew")
  | ((with_reducible refine id_a ?_); first | refine a_cons ?_ | refine a_nil ?_)
  | ((with_reducible refine id_oa ?_); walk_at "oa")
  | ((with_reducible refine id_os ?_); walk_at "os")
  | ((with_reducible refine id_p ?_); first | refine p_none ?_ | refine p_some ?_)
  | ((with_reducible refine id_gs ?_); first | refine gs_nil ?_ | walk_at "gs1")
  | ((with_reducible refine id_g ?_); first | walk_at "g1" | refine g_tup (by assumption) ?_ | refine g_unl (by assumption) ?_)
  | (with_reducible refine iteT ?_)
  | (with_reducible refine iteF ?_)
  | refine j_cons ?_
  | refine j_nil ?_
  | (refine o_fmt_int ?_ ?_; rotate_left)
  | (refine o_fmt_str ?_ ?_; rotate_left)
  | refine o_T rfl (Nat.le_of_ble_eq_true rfl) ?_
  | (refine o_part rfl ?_ ?_; rotate_left)
  | (refine o_split rfl ?_ ?_; rotate_left)
  | (refine o_j ?_ ?_; rotate_left)
  | (refine o_app (by assumption) ?_ ?_; rotate_left)
  | refine ⟨_, rfl, ?_⟩)
local macro_rules | `(tactic| walk_at "q") => `(tactic| repeat walk_at "q1")
local macro_rules | `(tactic| walk_at "qs") => `(tactic| repeat' (first | walk_at "q1" | refine ite2 (fun _ => ?_) (fun _ => ?_)))
local macro_rules | `(tactic| walk_at "len") => `(tactic| ((try simp only [Str.empty_append, Str.length_append]); (try (have : ("/" : Str).length = 1 := rfl)); omega))
section
variable {P : Program} {w : World} {K : PySem.W.Frag} {mg : Str → Option Value} {base : Heap}
theorem sgns_of {z : Str} {d : PyData} (h : d ∈ sgns z) : ∃ c, d = .str ⟨#[c]⟩ := by
  unfold sgns at h
  obtain ⟨c, _, e⟩ := List.mem_map.mp h
  exact ⟨c, e.symm⟩
def figF : PyData → Option PyData
  | .str x => if figs x.cps.toList = true then none else some (.str x)
  | _ => none
theorem figs_one (c : Nat) : figs (⟨#[c]⟩ : Str).cps.toList = decide (c ∈ ([48, 49, 50, 51, 52, 53, 54, 55, 56, 57] : List Nat)) := by simp [figs]
theorem figF_no {c : Nat} (h : ¬ c ∈ ([48, 49, 50, 51, 52, 53, 54, 55, 56, 57] : List Nat)) : figF (.str ⟨#[c]⟩) = some (.str ⟨#[c]⟩) := by
  show (if figs (⟨#[c]⟩ : Str).cps.toList = true then none else some (PyData.str ⟨#[c]⟩)) = _
  rw [figs_one, decide_eq_false h]
  rfl
theorem figF_yes {c : Nat} (h : c ∈ ([48, 49, 50, 51, 52, 53, 54, 55, 56, 57] : List Nat)) : figF (.str ⟨#[c]⟩) = none := by
  show (if figs (⟨#[c]⟩ : Str).cps.toList = true then none else some (PyData.str ⟨#[c]⟩)) = _
  rw [figs_one, decide_eq_true h]
  rfl
theorem figF_nil {z : Str} : ((sgns z).filterMap figF).isEmpty = figs z.cps.toList := by
  unfold sgns
  generalize z.cps.toList = l
  induction l with
  | nil => rfl
  | cons c r ih =>
    rw [List.map_cons, List.filterMap_cons]
    by_cases h : c ∈ ([48, 49, 50, 51, 52, 53, 54, 55, 56, 57] : List Nat)
    · rw [figF_yes h]
      show (List.filterMap figF _).isEmpty = _
      rw [ih]
      unfold figs
      rw [List.all_cons, decide_eq_true h, Bool.true_and]
    · rw [figF_no h]
      unfold figs
      rw [List.all_cons, decide_eq_false h]
      rfl
theorem figF_shaped {z : Str} (h : okS z) : SeqAt.shaped (.list ((sgns z).filterMap figF)) = true := by
  refine shaped_list (List.all_eq_true.mpr fun d hd => ?_)
  obtain ⟨e, he, hf⟩ := List.mem_filterMap.mp hd
  unfold sgns at he
  obtain ⟨c, hc, rfl⟩ := List.mem_map.mp he
  by_cases h2 : c ∈ ([48, 49, 50, 51, 52, 53, 54, 55, 56, 57] : List Nat)
  · rw [figF_yes h2] at hf
    cases hf
  · rw [figF_no h2] at hf
    cases hf
    exact strOk_of fun c' hc' => by simp at hc'; subst hc'; exact h c' hc
def sp__law_figures : FSp := fun as m Pq _ => ∃ z : Str, as = [.dat (.str z)] ∧ z.length ≤ 100000 ∧ okS z ∧ Pq (.dat (.bool (wholeL z.cps.toList).isSome)) m
local macro_rules | `(tactic| walk_at "var") => `(tactic| first | ((with_reducible refine id_name "signs" ?_); refine e_var (i := 0) rfl rfl ?_) | ((with_reducible refine id_name "sign" ?_); refine e_var (i := 1) rfl rfl ?_))
local macro_rules | `(tactic| walk_at "set") => `(tactic| first | ((with_reducible refine id_sset "signs" ?_); refine s_set (i := 0) (by assumption) rfl ?_) | ((with_reducible refine id_sset "sign" ?_); refine s_set (i := 1) (by assumption) rfl ?_))
local macro_rules | `(tactic| walk_at "g1") => `(tactic| first | ((with_reducible refine id_gname "signs" ?_); refine g_name (i := 0) (by assumption) rfl ?_) | ((with_reducible refine id_gname "sign" ?_); refine g_name (i := 1) (by assumption) rfl ?_))
local macro_rules | `(tactic| walk_at "gs1") => `(tactic| first | ((with_reducible refine id_gsname "signs" ?_); refine gs_name (i := 0) (by assumption) rfl ?_) | ((with_reducible refine id_gsname "sign" ?_); refine gs_name (i := 1) (by assumption) rfl ?_))
theorem ok__law_figures {f : Addr} {fd : FuncData} (B : Bl mg) (D : Dn K mg "_law_figures" s__law_figures ["signs"] f fd) : Df P w K mg base 1 "_law_figures" ["signs"] sp__law_figures := by
  refine Df.mk' D sc__law_figures (fun as m P EP ⟨_, e, _⟩ => by rw [e]; rfl) ?_
  rintro cdv A outer s H E hr nd cm po as m Pq EP ⟨z, rfl, hz, ho, hP⟩
  have z1 := B.len
  have el : z.cps.toList.length = z.length := Array.length_toList
  have em : ("" : Str).cps.toList = [] := by decide +kernel
  walk_at "q1"
  refine s_ifD (badL z.cps.toList) ?_ ?_
  · walk_at "qs"
    all_goals first | omega | exact ⟨by omega, by omega⟩ | refine ⟨rfl, ?_⟩ | skip
    all_goals ((try simp only [eqv_strL, zero_str, em] at *); simp only [decide_eq_true_eq, Bool.not_eq_true', decide_eq_false_iff_not] at *; generalize z.cps.toList = l at *; cases l with
      | nil => first | omega | (exfalso; simp only [List.length_nil] at el; omega) | (exfalso; simp_all; done) | (exfalso; simp_all; omega) | (unfold badL; simp; done)
      | cons c r => simp only [List.length_cons, List.getD_cons_zero, Int.toNat_zero] at *; first | omega | exact ⟨by omega, by omega⟩ | (unfold badL; grind))
  · refine ite2 (fun h1 => ?_) (fun h1 => ?_)
    · walk_at "q"
      unfold wholeL at hP
      rw [if_pos h1] at hP
      exact hP
    · unfold wholeL at hP
      rw [if_neg h1] at hP
      walk_at "q"
      refine e_lcS (i := 1) figF cm nd ?_ (blkOk_by (N := n__law_figures) (sc := defScope s__law_figures) (by decide +kernel)) rfl
      walk_at "q"
      refine ⟨by omega, ?_, ?_⟩
      · intro m' _ d hd
        obtain ⟨c, rfl⟩ := sgns_of hd
        refine ⟨!decide (c ∈ ("0123456789" : Str).cps.toList), fun s0 H0 C cl fp => ?_, ?_⟩
        · walk_at "q"
          exact ⟨rfl, rfl⟩
        · rw [figs_str]
          refine ite2 (fun h2 => ⟨_, figF_no (by simpa using h2), fun s0 H0 C cl fp => ?_⟩) (fun h2 => figF_yes (by simp only [Bool.not_eq_true', decide_eq_false_iff_not, Classical.not_not] at h2; exact h2))
          walk_at "q"
          exact ⟨rfl, rfl⟩
      · refine e_lst ?_
        walk_at "q"
        · show Pq (.dat (.bool (PyData.eqv (.list ((sgns z).filterMap figF)) (.list [])))) m
          rw [eqv_nil, figF_nil]
          cases e : figs z.cps.toList with
          | true => rw [e] at hP; exact hP
          | false => rw [e] at hP; exact hP
        · exact figF_shaped ho
        · decide +kernel
end
end KK
set_option maxHeartbeats 4000000
namespace KK
open PySem PySem.Spec PyProof.Rows L2 QQ
local macro_rules | `(tactic| walk_at "o2") => `(tactic| first
  | refine o_add_int ?_
  | refine o_sub ?_
  | refine o_cmp ?_
  | refine o_isN ?_
  | refine o_notN ?_
  | refine o_eqS rfl ?_
  | refine o_neS rfl ?_
  | (refine o_add_str ?_ ?_; rotate_left)
  | (refine o_add_lst ?_ ?_; rotate_left)
  | (refine o_mul ?_ ?_; rotate_left)
  | (refine o_mul_str ?_ ?_; rotate_left)
  | (refine o_I ?_ ?_; rotate_left)
  | refine o_inSign ?_
  | refine o_notInSign ?_
  | refine o_ix_tup rfl ?_
  | refine o_ix_lst rfl ?_
  | refine o_ix_fz rfl ?_
  | refine o_ix_own rfl rfl ?_
  | (refine o_ix_str' ?_ ?_ ?_; rotate_left 2)
  | (refine o_ix_lst' ?_ ?_; rotate_left)
  | (refine o_ix_tup' ?_ ?_; rotate_left)
  | (refine o_ix_fz' ?_ ?_; rotate_left)
  | (refine o_eq ?_ ?_ ?_; rotate_left 2)
  | (refine o_ne ?_ ?_ ?_; rotate_left 2))
local macro_rules | `(tactic| walk_at "os") => `(tactic| first
  | (refine sl_str' ?_ ?_; rotate_left)
  | refine sl_lst' ?_
  | refine sl_fz' ?_
  | (refine sl_tup' ?_ ?_; rotate_left))
local macro_rules | `(tactic| walk_at "oa") => `(tactic| first
  | refine o_len_lst ?_
  | refine o_len_tup ?_
  | refine o_len_fz ?_
  | (refine o_len_str ?_ ?_; rotate_left)
  | refine o_len_own rfl ?_
  | refine o_abs ?_
  | refine o_max2 ?_
  | refine o_min2 ?_
  | refine o_int_bl ?_
  | (refine o_int_str ?_ ?_ ?_; rotate_left 2)
  | (refine o_str ?_ ?_; rotate_left)
  | refine o_isi_int ?_
  | refine o_isi_bool ?_
  | refine o_isi_str ?_
  | refine o_isi_tuple ?_
  | refine o_isi_list ?_
  | refine o_isi_dict ?_)
local macro_rules | `(tactic| walk_at "ee") => `(tactic| first
  | ((with_reducible refine id_name _ ?_); walk_at "var")
  | ((with_reducible refine id_const ?_); first | refine e_int ?_ | refine e_str ?_ | refine e_non ?_ | refine e_bl ?_)
  | ((with_reducible refine id_subs ?_); first | refine e_slice ?_ | refine e_sub ix_seq ?_)
  | ((with_reducible refine id_bin .Add ?_); refine e_bin (op := .Add) op_addA ?_)
  | ((with_reducible refine id_bin .Sub ?_); refine e_bin (op := .Sub) op_sub ?_)
  | ((with_reducible refine id_bin .Mult ?_); refine e_bin (op := .Mult) op_mulA ?_)
  | ((with_reducible refine id_bin .FloorDiv ?_); refine e_bin (op := .FloorDiv) op_fdivW ?_)
  | ((with_reducible refine id_bin .Mod ?_); refine e_bin (op := .Mod) op_mod ?_)
  | ((with_reducible refine id_bin .Pow ?_); refine e_bin (op := .Pow) op_pow ?_)
  | ((with_reducible refine id_cmp .Lt ?_); refine e_cmp (op := .Lt) op_lt ?_)
  | ((with_reducible refine id_cmp .LtE ?_); refine e_cmp (op := .LtE) op_le ?_)
  | ((with_reducible refine id_cmp .Gt ?_); refine e_cmp (op := .Gt) op_gt ?_)
  | ((with_reducible refine id_cmp .GtE ?_); refine e_cmp (op := .GtE) op_ge ?_)
  | ((with_reducible refine id_cmp .Is ?_); refine e_cmp (op := .Is) op_isN ?_)
  | ((with_reducible refine id_cmp .IsNot ?_); refine e_cmp (op := .IsNot) op_notN ?_)
  | ((with_reducible refine id_cmp .Eq ?_); refine e_cmp (op := .Eq) (op_eqA (Room.units (by assumption))) ?_)
  | ((with_reducible refine id_cmp .NotEq ?_); refine e_cmp (op := .NotEq) (op_neA (Room.units (by assumption))) ?_)
  | ((with_reducible refine id_cmp .In ?_); refine e_cmp (op := .In) op_in_sign ?_)
  | ((with_reducible refine id_cmp .NotIn ?_); refine e_cmp (op := .NotIn) op_notIn_sign ?_)
  | ((with_reducible refine id_calln "len" ?_); refine e_len (by assumption) ?_)
  | ((with_reducible refine id_calln "abs" ?_); refine e_abs (by assumption) ?_)
  | ((with_reducible refine id_calln "int" ?_); refine e_intc (by assumption) ?_)
  | ((with_reducible refine id_calln "str" ?_); refine e_strc (by assumption) ?_)
  | ((with_reducible refine id_calln "max" ?_); refine e_max (by assumption) (by assumption) ?_)
  | ((with_reducible refine id_calln "min" ?_); refine e_min (by assumption) (by assumption) ?_)
  | ((with_reducible refine id_calln "isinstance" ?_); first | refine e_isi (T := "int") (n := "int") (by assumption) (by assumption) ?_ | refine e_isi (T := "bool") (n := "bool") (by assumption) (by assumption) ?_ | refine e_isi (T := "str") (n := "str") (by assumption) (by assumption) ?_ | refine e_isi (T := "tuple") (n := "tuple") (by assumption) (by assumption) ?_ | refine e_isi (T := "list") (n := "list") (by assumption) (by assumption) ?_ | refine e_isi (T := "dict") (n := "dict") (by assumption) (by assumption) ?_)
  | ((with_reducible refine id_callm "partition" ?_); refine e_part ?_)
  | ((with_reducible refine id_callm "split" ?_); refine e_split ?_)
  | ((with_reducible refine id_callm "join" ?_); refine e_join ?_)
  | ((with_reducible refine id_callm "append" ?_); refine e_append ?_)
  | ((with_reducible refine id_bool ?_); first | refine e_one ?_ | refine e_and ?_ | refine e_or ?_)
  | ((with_reducible refine id_un .Not ?_); refine e_not ?_)
  | ((with_reducible refine id_un .USub ?_); refine e_un (op := .USub) un_neg ?_)
  | refine e_tup ?_
  | refine e_fmt ?_
  | refine e_joined ?_
  | refine e_ifExp ?_)
local macro_rules | `(tactic| walk_at "et") => `(tactic| first
  | ((with_reducible refine id_tnot ?_); refine t_not ?_)
  | ((with_reducible refine id_tbool ?_); first | refine t_w (w_and ?_) | refine t_w (w_or ?_))
  | ((with_reducible refine id_tcmp .Lt ?_); refine t_cmp (op := .Lt) op_lt ?_)
  | ((with_reducible refine id_tcmp .LtE ?_); refine t_cmp (op := .LtE) op_le ?_)
  | ((with_reducible refine id_tcmp .Gt ?_); refine t_cmp (op := .Gt) op_gt ?_)
  | ((with_reducible refine id_tcmp .GtE ?_); refine t_cmp (op := .GtE) op_ge ?_)
  | ((with_reducible refine id_tcmp .Is ?_); refine t_cmp (op := .Is) op_isN ?_)
  | ((with_reducible refine id_tcmp .IsNot ?_); refine t_cmp (op := .IsNot) op_notN ?_)
  | ((with_reducible refine id_tcmp .Eq ?_); refine t_cmp (op := .Eq) (op_eqA (Room.units (by assumption))) ?_)
  | ((with_reducible refine id_tcmp .NotEq ?_); refine t_cmp (op := .NotEq) (op_neA (Room.units (by assumption))) ?_)
  | ((with_reducible refine id_tcmp .In ?_); refine t_cmp (op := .In) op_in_sign ?_)
  | ((with_reducible refine id_tcmp .NotIn ?_); refine t_cmp (op := .NotIn) op_notIn_sign ?_)
  | ((with_reducible refine id_tcmp2 ?_); first | refine t_chain (op := .LtE) (op' := .LtE) op_le op_le ?_ | refine t_chain (op := .LtE) (op' := .Lt) op_le op_lt ?_ | refine t_chain (op := .Lt) (op' := .Lt) op_lt op_lt ?_)
  | refine t_val ?_)
local macro_rules | `(tactic| walk_at "ew") => `(tactic| first
  | refine w_and1 ?_
  | refine w_or1 ?_
  | refine w_and ?_
  | refine w_or ?_)
local macro_rules | `(tactic| walk_at "es") => `(tactic| first
  | ((with_reducible refine id_sret ?_); refine s_ret ?_)
  | ((with_reducible refine id_sif ?_); refine s_if ?_)
  | ((with_reducible refine id_sset _ ?_); walk_at "set")
  | ((with_reducible refine id_sasg ?_); refine s_asg ?_)
  | ((with_reducible refine id_sexpr ?_); refine s_expr ?_)
  | refine s_retN ?_
  | refine s_pass ?_)
local macro_rules | `(tactic| walk_at "q1") => `(tactic| first
  | ((with_reducible refine id_e ?_); walk_at "ee")
  | ((with_reducible refine id_o2 ?_); walk_at "o2")
  | ((with_reducible refine id_b ?_); first | refine b_cons ?_ | refine b_nil ?_)
  | ((with_reducible refine id_s ?_); walk_at "es")
  | ((with_reducible refine id_t ?_); walk_at "et")
  | ((with_reducible refine id_w ?_); walk_at "ew")
  | ((with_reducible refine id_a ?_); first | refine a_cons ?_ | refine a_nil ?_)
  | ((with_reducible refine id_oa ?_); walk_at "oa")
  | ((with_reducible refine id_os ?_); walk_at "os")
  | ((with_reducible refine id_p ?_); first | refine p_none ?_ | refine p_some ?_)
  | ((with_reducible refine id_gs ?_); first | refine gs_nil ?_ | walk_at "gs1")
  | ((with_reducible refine id_g ?_); first | walk_at "g1" | refine g_tup (by assumption) ?_ | refine g_unl (by assumption) ?_)
  | (with_reducible refine iteT ?_)
  | (with_reducible refine iteF ?_)
  | refine j_cons ?_
  | refine j_nil ?_
  | (refine o_fmt_int ?_ ?_; rotate_left)
  | (refine o_fmt_str ?_ ?_; rotate_left)
  | refine o_T rfl (Nat.le_of_ble_eq_true rfl) ?_
  | (refine o_part rfl ?_ ?_; rotate_left)
  | (refine o_split rfl ?_ ?_; rotate_left)
  | (refine o_j ?_ ?_; rotate_left)
  | (refine o_app (by assumption) ?_ ?_; rotate_left)
  | refine ⟨_, rfl, ?_⟩)
local macro_rules | `(tactic| walk_at "q") => `(tactic| repeat walk_at "q1")
local macro_rules | `(tactic| walk_at "qs") => `(tactic| repeat' (first | walk_at "q1" | refine ite2 (fun _ => ?_) (fun _ => ?_)))
local macro_rules | `(tactic| walk_at "len") => `(tactic| ((try simp only [Str.empty_append, Str.length_append]); (try (have : ("/" : Str).length = 1 := rfl)); omega))
section
variable {P : Program} {w : World} {K : PySem.W.Frag} {mg : Str → Option Value} {base : Heap}
def oRat : Option (Int × Int) → AV
  | none => .dat .none
  | some (a, b) => .dat (fr a b)
def sp__law_divisor : FSp := fun as m Pq _ => ∃ a b : Int, as = [.dat (.int a), .dat (.int b)] ∧ 0 ≤ b ∧ Pq (.dat (.int (Int.gcd a b))) m
theorem gcd_z {a : Int} : ((Int.gcd a 0 : Nat) : Int) = if a < 0 then -a else a := by
  show ((Nat.gcd a.natAbs 0 : Nat) : Int) = _
  rw [Nat.gcd_zero_right]
  split <;> omega
local macro_rules | `(tactic| walk_at "var") => `(tactic| first | ((with_reducible refine id_name "one" ?_); refine e_var (i := 0) rfl rfl ?_) | ((with_reducible refine id_name "other" ?_); refine e_var (i := 1) rfl rfl ?_))
local macro_rules | `(tactic| walk_at "set") => `(tactic| first | ((with_reducible refine id_sset "one" ?_); refine s_set (i := 0) (by assumption) rfl ?_) | ((with_reducible refine id_sset "other" ?_); refine s_set (i := 1) (by assumption) rfl ?_))
local macro_rules | `(tactic| walk_at "g1") => `(tactic| first | ((with_reducible refine id_gname "one" ?_); refine g_name (i := 0) (by assumption) rfl ?_) | ((with_reducible refine id_gname "other" ?_); refine g_name (i := 1) (by assumption) rfl ?_))
local macro_rules | `(tactic| walk_at "gs1") => `(tactic| first | ((with_reducible refine id_gsname "one" ?_); refine gs_name (i := 0) (by assumption) rfl ?_) | ((with_reducible refine id_gsname "other" ?_); refine gs_name (i := 1) (by assumption) rfl ?_))
theorem ok__law_divisor {f : Addr} {fd : FuncData} (B : Bl mg) (D : Dn K mg "_law_divisor" s__law_divisor ["one", "other"] f fd) : Df P w K mg base 1 "_law_divisor" ["one", "other"] sp__law_divisor := by
  refine Df.mk' D sc__law_divisor (fun as m P EP ⟨a, b, e, _⟩ => by rw [e]; rfl) ?_
  rintro cdv A outer s H E hr nd cm po as m Pq EP ⟨a, b, rfl, hb, hP⟩
  have zabs := B.abs
  walk_at "q"
  refine s_while po (fun n δ m' => ∃ x y : Int, δ = [some (.dat (.int x)), some (.dat (.int y))] ∧ m' = m ∧ 0 ≤ y ∧ n = y.toNat ∧ Int.gcd x y = Int.gcd a b) (b.toNat) ?_ ?_
  · exact ⟨_, _, rfl, rfl, hb, rfl, rfl⟩
  · rintro n δ m' ⟨x, y, rfl, rfl, hy, rfl, hg⟩
    walk_at "q"
    rw [eqv_int]
    refine ite2 (fun h => ?_) (fun h => ?_)
    · have hy0 : 0 < y := by simp at h; omega
      walk_at "q"
      refine s_par (i := 0) (j := 1) cm nd rfl rfl ?_
      walk_at "q"
      · refine ⟨_, ?_, y, x % y, rfl, rfl, Int.emod_nonneg _ (by omega), rfl, ?_⟩
        · have := Int.emod_lt_of_pos x hy0
          have := Int.emod_nonneg x (b := y) (by omega)
          omega
        · rw [gcd_stepI hy0, hg]
      · exact hy0
    · have hy0 : y = 0 := by simp at h; omega
      subst hy0
      walk_at "q"
      rw [← hg, gcd_z] at hP
      exact hP
local macro_rules | `(tactic| walk_at "var") => `(tactic| first | ((with_reducible refine id_name "top" ?_); refine e_var (i := 0) rfl rfl ?_) | ((with_reducible refine id_name "bottom" ?_); refine e_var (i := 1) rfl rfl ?_) | ((with_reducible refine id_name "share" ?_); refine e_var (i := 2) rfl rfl ?_))
local macro_rules | `(tactic| walk_at "set") => `(tactic| first | ((with_reducible refine id_sset "top" ?_); refine s_set (i := 0) (by assumption) rfl ?_) | ((with_reducible refine id_sset "bottom" ?_); refine s_set (i := 1) (by assumption) rfl ?_) | ((with_reducible refine id_sset "share" ?_); refine s_set (i := 2) (by assumption) rfl ?_))
local macro_rules | `(tactic| walk_at "g1") => `(tactic| first | ((with_reducible refine id_gname "top" ?_); refine g_name (i := 0) (by assumption) rfl ?_) | ((with_reducible refine id_gname "bottom" ?_); refine g_name (i := 1) (by assumption) rfl ?_) | ((with_reducible refine id_gname "share" ?_); refine g_name (i := 2) (by assumption) rfl ?_))
local macro_rules | `(tactic| walk_at "gs1") => `(tactic| first | ((with_reducible refine id_gsname "top" ?_); refine gs_name (i := 0) (by assumption) rfl ?_) | ((with_reducible refine id_gsname "bottom" ?_); refine gs_name (i := 1) (by assumption) rfl ?_) | ((with_reducible refine id_gsname "share" ?_); refine gs_name (i := 2) (by assumption) rfl ?_))
theorem ok__law_lowest {f : Addr} {fd : FuncData} (Fd : Df P w K mg base 1 "_law_divisor" ["one", "other"] sp__law_divisor) (D : Dn K mg "_law_lowest" s__law_lowest ["top", "bottom"] f fd) : Df P w K mg base 2 "_law_lowest" ["top", "bottom"] sp_lowest := by
  refine Df.mk' D sc__law_lowest (fun as m P EP ⟨a, b, e, _⟩ => by rw [e]; rfl) ?_
  rintro cdv A outer s H E hr nd cm po as m Pq EP ⟨a, b, rfl, hb, hb2, hP⟩
  have hg := gcd_pos (a := a) hb
  have hg2 : Lt2 2000 ((Int.gcd a b : Nat) : Int) := Lt2.le hb2 (by have := gcd_le (a := a) hb; omega)
  walk_at "q"
  refine e_call Fd hr ?_
  walk_at "q"
  refine ⟨a, b, rfl, by omega, ?_⟩
  walk_at "q"
  · exact hP
  · exact ⟨hg, Nat.lt_trans (hg2.log (by decide)) (by decide)⟩
  · exact ⟨hg, Nat.lt_trans (hg2.log (by decide)) (by decide)⟩
theorem gcd_ne {a b : Int} (h : (!decide (((Int.gcd a b : Nat) : Int) = 1)) = true) : Int.gcd a b ≠ 1 := fun z => by
  rw [z] at h
  exact absurd h (by decide)
theorem gcd_one {a b : Int} (h : ¬ (!decide (((Int.gcd a b : Nat) : Int) = 1)) = true) : Int.gcd a b = 1 := by
  simp only [Bool.not_eq_true', decide_eq_false_iff_not, Classical.not_not] at h
  omega
def sp_ratio_in : FSp := fun as m Pq _ => ∃ z : Str, as = [.dat (.str z)] ∧ z.length ≤ 100000 ∧ Pq (oRat (ratioZ z)) m
local macro_rules | `(tactic| walk_at "var") => `(tactic| first | ((with_reducible refine id_name "text" ?_); refine e_var (i := 0) rfl rfl ?_) | ((with_reducible refine id_name "above" ?_); refine e_var (i := 1) rfl rfl ?_) | ((with_reducible refine id_name "stroke" ?_); refine e_var (i := 2) rfl rfl ?_) | ((with_reducible refine id_name "below" ?_); refine e_var (i := 3) rfl rfl ?_) | ((with_reducible refine id_name "minus" ?_); refine e_var (i := 4) rfl rfl ?_) | ((with_reducible refine id_name "top" ?_); refine e_var (i := 5) rfl rfl ?_) | ((with_reducible refine id_name "bottom" ?_); refine e_var (i := 6) rfl rfl ?_))
local macro_rules | `(tactic| walk_at "set") => `(tactic| first | ((with_reducible refine id_sset "text" ?_); refine s_set (i := 0) (by assumption) rfl ?_) | ((with_reducible refine id_sset "above" ?_); refine s_set (i := 1) (by assumption) rfl ?_) | ((with_reducible refine id_sset "stroke" ?_); refine s_set (i := 2) (by assumption) rfl ?_) | ((with_reducible refine id_sset "below" ?_); refine s_set (i := 3) (by assumption) rfl ?_) | ((with_reducible refine id_sset "minus" ?_); refine s_set (i := 4) (by assumption) rfl ?_) | ((with_reducible refine id_sset "top" ?_); refine s_set (i := 5) (by assumption) rfl ?_) | ((with_reducible refine id_sset "bottom" ?_); refine s_set (i := 6) (by assumption) rfl ?_))
local macro_rules | `(tactic| walk_at "g1") => `(tactic| first | ((with_reducible refine id_gname "text" ?_); refine g_name (i := 0) (by assumption) rfl ?_) | ((with_reducible refine id_gname "above" ?_); refine g_name (i := 1) (by assumption) rfl ?_) | ((with_reducible refine id_gname "stroke" ?_); refine g_name (i := 2) (by assumption) rfl ?_) | ((with_reducible refine id_gname "below" ?_); refine g_name (i := 3) (by assumption) rfl ?_) | ((with_reducible refine id_gname "minus" ?_); refine g_name (i := 4) (by assumption) rfl ?_) | ((with_reducible refine id_gname "top" ?_); refine g_name (i := 5) (by assumption) rfl ?_) | ((with_reducible refine id_gname "bottom" ?_); refine g_name (i := 6) (by assumption) rfl ?_))
local macro_rules | `(tactic| walk_at "gs1") => `(tactic| first | ((with_reducible refine id_gsname "text" ?_); refine gs_name (i := 0) (by assumption) rfl ?_) | ((with_reducible refine id_gsname "above" ?_); refine gs_name (i := 1) (by assumption) rfl ?_) | ((with_reducible refine id_gsname "stroke" ?_); refine gs_name (i := 2) (by assumption) rfl ?_) | ((with_reducible refine id_gsname "below" ?_); refine gs_name (i := 3) (by assumption) rfl ?_) | ((with_reducible refine id_gsname "minus" ?_); refine gs_name (i := 4) (by assumption) rfl ?_) | ((with_reducible refine id_gsname "top" ?_); refine gs_name (i := 5) (by assumption) rfl ?_) | ((with_reducible refine id_gsname "bottom" ?_); refine gs_name (i := 6) (by assumption) rfl ?_))
theorem ok_ratio_in {f : Addr} {fd : FuncData} (B : Bl mg) (Fw : Df P w K mg base 1 "whole_in" ["signs"] sp_whole_in) (Fd : Df P w K mg base 1 "divisor" ["one", "other"] sp_divisor) (D : Dn K mg "ratio_in" s_ratio_in ["text"] f fd) : Df P w K mg base 2 "ratio_in" ["text"] sp_ratio_in := by
  refine Df.mk' D sc_ratio_in (fun as m P EP ⟨_, e, _⟩ => by rw [e]; rfl) ?_
  rintro cdv A outer s H E hr nd cm po as m Pq EP ⟨z, rfl, hz, hP⟩
  have z2 := B.int
  have em : ("" : Str).cps.toList = [] := by decide +kernel
  have emi : ("-" : Str).cps.toList = [45] := by decide +kernel
  unfold ratioZ at hP
  have l1 := (part_1 z "/").len
  have l3 := (part_3 z "/").len
  walk_at "q"
  · generalize hp1 : (Txt.partition z "/").1 = p1 at *
    generalize hp2 : (Txt.partition z "/").2.1 = p2 at *
    generalize hp3 : (Txt.partition z "/").2.2 = p3 at *
    have emin : PyData.eqv (.str (cutS p1 none (some 1))) (.str "-") = minusL p1.cps.toList := by rw [eqv_strL, emi, cut_1]; rfl
    have ecut : (cutS p1 (some (if minusL p1.cps.toList = true then 1 else 0)) none).cps.toList = p1.cps.toList.drop (if minusL p1.cps.toList = true then 1 else 0) := by
      split
      · exact cut_k p1 1
      · exact cut_k p1 0
    have lcut := (cut_sub p1 (some (if minusL p1.cps.toList = true then 1 else 0)) none).len
    rw [emin]
    refine e_call Fw hr ?_
    walk_at "q"
    · refine ⟨by omega, ?_⟩
      rw [ecut]
      unfold ratio3 at hP
      generalize hmi : minusL p1.cps.toList = mi at *
      cases e : wholeL (p1.cps.toList.drop (if mi = true then 1 else 0)) with
      | none =>
        rw [e] at hP
        dsimp only at hP
        walk_at "q"
        refine iteT ?_
        walk_at "q"
        exact hP
      | some t =>
        rw [e] at hP
        dsimp only at hP
        have ht := wholeL_nn e
        walk_at "q"
        refine iteF ?_
        walk_at "q"
        have hz0 : PyData.eqv (.int t) (.int 0) = decide (t = 0) := eqv_int _ _
        have key : ∀ tt : Int, Pq (oRat (if p2.cps.toList = [] then some (tt, 1) else match wholeL p3.cps.toList with | none => none | some b => if b < 2 ∨ Int.gcd tt b ≠ 1 then none else some (tt, b))) m →
            ∀ b, wholeL p3.cps.toList = some b → ¬ p2.cps.toList = [] → Pq (oRat (if b < 2 ∨ Int.gcd tt b ≠ 1 then none else some (tt, b))) m := by
          intro tt hQ b hb hn
          rw [if_neg hn, hb] at hQ
          exact hQ
        cases mi with
        | true =>
          refine iteT ?_
          walk_at "q"
          rw [hz0]
          refine ite2 (fun h1 => ?_) (fun h1 => ?_)
          · rw [if_pos (by simpa using h1)] at hP
            walk_at "q"
            exact hP
          · rw [if_neg (by simpa using h1)] at hP
            walk_at "q"
            have hQ0 : Pq (oRat (if p2.cps.toList = [] then some (0 - t, 1) else match wholeL p3.cps.toList with | none => none | some b => if b < 2 ∨ Int.gcd (0 - t) b ≠ 1 then none else some (0 - t, b))) m := hP
            rw [eqv_strL, em]
            refine ite2 (fun h1 => ?_) (fun h1 => ?_)
            · rw [if_pos (of_decide_eq_true h1)] at hQ0
              walk_at "q"
              exact hQ0
            · have h1' : ¬ p2.cps.toList = [] := fun z => h1 (decide_eq_true z)
              walk_at "q"
              refine e_call Fw hr ?_
              walk_at "q"
              refine ⟨by omega, ?_⟩
              cases e3 : wholeL p3.cps.toList with
              | none =>
                rw [if_neg h1', e3] at hQ0
                walk_at "q"
                refine iteT ?_
                walk_at "q"
                exact hQ0
              | some b =>
                have hQ := key _ hQ0 b e3 h1'
                walk_at "q"
                refine iteF ?_
                walk_at "q"
                refine ite2 (fun h2 => ?_) (fun h2 => ?_)
                · rw [if_pos (.inl (of_decide_eq_true h2))] at hQ
                  walk_at "q"
                  exact hQ
                · walk_at "q"
                  refine e_call Fd hr ?_
                  walk_at "q"
                  refine ⟨_, _, rfl, ?_⟩
                  walk_at "q"
                  rw [eqv_int]
                  refine ite2 (fun h3 => ?_) (fun h3 => ?_)
                  · rw [if_pos (.inr (gcd_ne h3))] at hQ
                    walk_at "q"
                    exact hQ
                  · rw [if_neg (fun z => z.elim (fun z => h2 (decide_eq_true z)) (fun z => z (gcd_one h3)))] at hQ
                    walk_at "q"
                    exact hQ
        | false =>
            refine iteF ?_
            walk_at "q"
            rw [if_neg (by simp)] at hP
            have hQ0 : Pq (oRat (if p2.cps.toList = [] then some (t, 1) else match wholeL p3.cps.toList with | none => none | some b => if b < 2 ∨ Int.gcd (t) b ≠ 1 then none else some (t, b))) m := hP
            rw [eqv_strL, em]
            refine ite2 (fun h1 => ?_) (fun h1 => ?_)
            · rw [if_pos (of_decide_eq_true h1)] at hQ0
              walk_at "q"
              exact hQ0
            · have h1' : ¬ p2.cps.toList = [] := fun z => h1 (decide_eq_true z)
              walk_at "q"
              refine e_call Fw hr ?_
              walk_at "q"
              refine ⟨by omega, ?_⟩
              cases e3 : wholeL p3.cps.toList with
              | none =>
                rw [if_neg h1', e3] at hQ0
                walk_at "q"
                refine iteT ?_
                walk_at "q"
                exact hQ0
              | some b =>
                have hQ := key _ hQ0 b e3 h1'
                walk_at "q"
                refine iteF ?_
                walk_at "q"
                refine ite2 (fun h2 => ?_) (fun h2 => ?_)
                · rw [if_pos (.inl (of_decide_eq_true h2))] at hQ
                  walk_at "q"
                  exact hQ
                · walk_at "q"
                  refine e_call Fd hr ?_
                  walk_at "q"
                  refine ⟨_, _, rfl, ?_⟩
                  walk_at "q"
                  rw [eqv_int]
                  refine ite2 (fun h3 => ?_) (fun h3 => ?_)
                  · rw [if_pos (.inr (gcd_ne h3))] at hQ
                    walk_at "q"
                    exact hQ
                  · rw [if_neg (fun z => z.elim (fun z => h2 (decide_eq_true z)) (fun z => z (gcd_one h3)))] at hQ
                    walk_at "q"
                    exact hQ
    · omega
  · omega
  · omega
end
end KK
set_option maxHeartbeats 4000000
namespace KK
open PySem PySem.Spec PyProof.Rows L2 QQ
local macro_rules | `(tactic| walk_at "o2") => `(tactic| first
  | refine o_add_int ?_
  | refine o_sub ?_
  | refine o_cmp ?_
  | refine o_isN ?_
  | refine o_notN ?_
  | refine o_eqS rfl ?_
  | refine o_neS rfl ?_
  | (refine o_add_str ?_ ?_; rotate_left)
  | (refine o_add_lst ?_ ?_; rotate_left)
  | (refine o_mul ?_ ?_; rotate_left)
  | (refine o_mul_str ?_ ?_; rotate_left)
  | (refine o_I ?_ ?_; rotate_left)
  | refine o_inSign ?_
  | refine o_notInSign ?_
  | refine o_ix_tup rfl ?_
  | refine o_ix_lst rfl ?_
  | refine o_ix_fz rfl ?_
  | refine o_ix_own rfl rfl ?_
  | (refine o_ix_str' ?_ ?_ ?_; rotate_left 2)
  | (refine o_ix_lst' ?_ ?_; rotate_left)
  | (refine o_ix_tup' ?_ ?_; rotate_left)
  | (refine o_ix_fz' ?_ ?_; rotate_left)
  | (refine o_eq ?_ ?_ ?_; rotate_left 2)
  | (refine o_ne ?_ ?_ ?_; rotate_left 2))
local macro_rules | `(tactic| walk_at "os") => `(tactic| first
  | (refine sl_str' ?_ ?_; rotate_left)
  | refine sl_lst' ?_
  | refine sl_fz' ?_
  | (refine sl_tup' ?_ ?_; rotate_left))
local macro_rules | `(tactic| walk_at "oa") => `(tactic| first
  | refine o_len_lst ?_
  | refine o_len_tup ?_
  | refine o_len_fz ?_
  | (refine o_len_str ?_ ?_; rotate_left)
  | refine o_len_own rfl ?_
  | refine o_abs ?_
  | refine o_max2 ?_
  | refine o_min2 ?_
  | refine o_int_bl ?_
  | (refine o_int_str ?_ ?_ ?_; rotate_left 2)
  | (refine o_str ?_ ?_; rotate_left)
  | refine o_isi_int ?_
  | refine o_isi_bool ?_
  | refine o_isi_str ?_
  | refine o_isi_tuple ?_
  | refine o_isi_list ?_
  | refine o_isi_dict ?_)
local macro_rules | `(tactic| walk_at "ee") => `(tactic| first
  | ((with_reducible refine id_name _ ?_); walk_at "var")
  | ((with_reducible refine id_const ?_); first | refine e_int ?_ | refine e_str ?_ | refine e_non ?_ | refine e_bl ?_)
  | ((with_reducible refine id_subs ?_); first | refine e_slice ?_ | refine e_sub ix_seq ?_)
  | ((with_reducible refine id_bin .Add ?_); refine e_bin (op := .Add) op_addA ?_)
  | ((with_reducible refine id_bin .Sub ?_); refine e_bin (op := .Sub) op_sub ?_)
  | ((with_reducible refine id_bin .Mult ?_); refine e_bin (op := .Mult) op_mulA ?_)
  | ((with_reducible refine id_bin .FloorDiv ?_); refine e_bin (op := .FloorDiv) op_fdivW ?_)
  | ((with_reducible refine id_bin .Mod ?_); refine e_bin (op := .Mod) op_mod ?_)
  | ((with_reducible refine id_bin .Pow ?_); refine e_bin (op := .Pow) op_pow ?_)
  | ((with_reducible refine id_cmp .Lt ?_); refine e_cmp (op := .Lt) op_lt ?_)
  | ((with_reducible refine id_cmp .LtE ?_); refine e_cmp (op := .LtE) op_le ?_)
  | ((with_reducible refine id_cmp .Gt ?_); refine e_cmp (op := .Gt) op_gt ?_)
  | ((with_reducible refine id_cmp .GtE ?_); refine e_cmp (op := .GtE) op_ge ?_)
  | ((with_reducible refine id_cmp .Is ?_); refine e_cmp (op := .Is) op_isN ?_)
  | ((with_reducible refine id_cmp .IsNot ?_); refine e_cmp (op := .IsNot) op_notN ?_)
  | ((with_reducible refine id_cmp .Eq ?_); refine e_cmp (op := .Eq) (op_eqA (Room.units (by assumption))) ?_)
  | ((with_reducible refine id_cmp .NotEq ?_); refine e_cmp (op := .NotEq) (op_neA (Room.units (by assumption))) ?_)
  | ((with_reducible refine id_cmp .In ?_); refine e_cmp (op := .In) op_in_sign ?_)
  | ((with_reducible refine id_cmp .NotIn ?_); refine e_cmp (op := .NotIn) op_notIn_sign ?_)
  | ((with_reducible refine id_calln "len" ?_); refine e_len (by assumption) ?_)
  | ((with_reducible refine id_calln "abs" ?_); refine e_abs (by assumption) ?_)
  | ((with_reducible refine id_calln "int" ?_); refine e_intc (by assumption) ?_)
  | ((with_reducible refine id_calln "str" ?_); refine e_strc (by assumption) ?_)
  | ((with_reducible refine id_calln "max" ?_); refine e_max (by assumption) (by assumption) ?_)
  | ((with_reducible refine id_calln "min" ?_); refine e_min (by assumption) (by assumption) ?_)
  | ((with_reducible refine id_calln "isinstance" ?_); first | refine e_isi (T := "int") (n := "int") (by assumption) (by assumption) ?_ | refine e_isi (T := "bool") (n := "bool") (by assumption) (by assumption) ?_ | refine e_isi (T := "str") (n := "str") (by assumption) (by assumption) ?_ | refine e_isi (T := "tuple") (n := "tuple") (by assumption) (by assumption) ?_ | refine e_isi (T := "list") (n := "list") (by assumption) (by assumption) ?_ | refine e_isi (T := "dict") (n := "dict") (by assumption) (by assumption) ?_)
  | ((with_reducible refine id_callm "partition" ?_); refine e_part ?_)
  | ((with_reducible refine id_callm "split" ?_); refine e_split ?_)
  | ((with_reducible refine id_callm "join" ?_); refine e_join ?_)
  | ((with_reducible refine id_callm "append" ?_); refine e_append ?_)
  | ((with_reducible refine id_bool ?_); first | refine e_one ?_ | refine e_and ?_ | refine e_or ?_)
  | ((with_reducible refine id_un .Not ?_); refine e_not ?_)
  | ((with_reducible refine id_un .USub ?_); refine e_un (op := .USub) un_neg ?_)
  | refine e_tup ?_
  | refine e_fmt ?_
  | refine e_joined ?_
  | refine e_ifExp ?_)
local macro_rules | `(tactic| walk_at "et") => `(tactic| first
  | ((with_reducible refine id_tnot ?_); refine t_not ?_)
  | ((with_reducible refine id_tbool ?_); first | refine t_w (w_and ?_) | refine t_w (w_or ?_))
  | ((with_reducible refine id_tcmp .Lt ?_); refine t_cmp (op := .Lt) op_lt ?_)
  | ((with_reducible refine id_tcmp .LtE ?_); refine t_cmp (op := .LtE) op_le ?_)
  | ((with_reducible refine id_tcmp .Gt ?_); refine t_cmp (op := .Gt) op_gt ?_)
  | ((with_reducible refine id_tcmp .GtE ?_); refine t_cmp (op := .GtE) op_ge ?_)
  | ((with_reducible refine id_tcmp .Is ?_); refine t_cmp (op := .Is) op_isN ?_)
  | ((with_reducible refine id_tcmp .IsNot ?_); refine t_cmp (op := .IsNot) op_notN ?_)
  | ((with_reducible refine id_tcmp .Eq ?_); refine t_cmp (op := .Eq) (op_eqA (Room.units (by assumption))) ?_)
  | ((with_reducible refine id_tcmp .NotEq ?_); refine t_cmp (op := .NotEq) (op_neA (Room.units (by assumption))) ?_)
  | ((with_reducible refine id_tcmp .In ?_); refine t_cmp (op := .In) op_in_sign ?_)
  | ((with_reducible refine id_tcmp .NotIn ?_); refine t_cmp (op := .NotIn) op_notIn_sign ?_)
  | ((with_reducible refine id_tcmp2 ?_); first | refine t_chain (op := .LtE) (op' := .LtE) op_le op_le ?_ | refine t_chain (op := .LtE) (op' := .Lt) op_le op_lt ?_ | refine t_chain (op := .Lt) (op' := .Lt) op_lt op_lt ?_)
  | refine t_val ?_)
local macro_rules | `(tactic| walk_at "ew") => `(tactic| first
  | refine w_and1 ?_
  | refine w_or1 ?_
  | refine w_and ?_
  | refine w_or ?_)
local macro_rules | `(tactic| walk_at "es") => `(tactic| first
  | ((with_reducible refine id_sret ?_); refine s_ret ?_)
  | ((with_reducible refine id_sif ?_); refine s_if ?_)
  | ((with_reducible refine id_sset _ ?_); walk_at "set")
  | ((with_reducible refine id_sasg ?_); refine s_asg ?_)
  | ((with_reducible refine id_sexpr ?_); refine s_expr ?_)
  | refine s_retN ?_
  | refine s_pass ?_)
local macro_rules | `(tactic| walk_at "q1") => `(tactic| first
  | ((with_reducible refine id_e ?_); walk_at "ee")
  | ((with_reducible refine id_o2 ?_); walk_at "o2")
  | ((with_reducible refine id_b ?_); first | refine b_cons ?_ | refine b_nil ?_)
  | ((with_reducible refine id_s ?_); walk_at "es")
  | ((with_reducible refine id_t ?_); walk_at "et")
  | ((with_reducible refine id_w ?_); walk_at "ew")
  | ((with_reducible refine id_a ?_); first | refine a_cons ?_ | refine a_nil ?_)
  | ((with_reducible refine id_oa ?_); walk_at "oa")
  | ((with_reducible refine id_os ?_); walk_at "os")
  | ((with_reducible refine id_p ?_); first | refine p_none ?_ | refine p_some ?_)
  | ((with_reducible refine id_gs ?_); first | refine gs_nil ?_ | walk_at "gs1")
  | ((with_reducible refine id_g ?_); first | walk_at "g1" | refine g_tup (by assumption) ?_ | refine g_unl (by assumption) ?_)
  | (with_reducible refine iteT ?_)
  | (with_reducible refine iteF ?_)
  | refine j_cons ?_
  | refine j_nil ?_
  | (refine o_fmt_int ?_ ?_; rotate_left)
  | (refine o_fmt_str ?_ ?_; rotate_left)
  | refine o_T rfl (Nat.le_of_ble_eq_true rfl) ?_
  | (refine o_part rfl ?_ ?_; rotate_left)
  | (refine o_split rfl ?_ ?_; rotate_left)
  | (refine o_j ?_ ?_; rotate_left)
  | (refine o_app (by assumption) ?_ ?_; rotate_left)
  | refine ⟨_, rfl, ?_⟩)
local macro_rules | `(tactic| walk_at "q") => `(tactic| repeat walk_at "q1")
local macro_rules | `(tactic| walk_at "qs") => `(tactic| repeat' (first | walk_at "q1" | refine ite2 (fun _ => ?_) (fun _ => ?_)))
local macro_rules | `(tactic| walk_at "len") => `(tactic| ((try simp only [Str.empty_append, Str.length_append]); (try (have : ("/" : Str).length = 1 := rfl)); omega))
section
variable {P : Program} {w : World} {K : PySem.W.Frag} {mg : Str → Option Value} {base : Heap}
theorem wholeL_some {l : List Nat} {t : Int} (h : wholeL l = some t) : NumText.AllDigits l ∧ l ≠ [] ∧ l.length ≤ 60 ∧ t = ((NumText.digitsVal l : Nat) : Int) := by
  unfold wholeL at h
  split at h
  · cases h
  · rename_i hb
    split at h
    · rename_i hf
      cases h
      refine ⟨figs_digits hf, fun z => hb (by rw [z]; decide), ?_, rfl⟩
      simp only [badL, Bool.or_eq_true, decide_eq_true_eq, not_or] at hb
      omega
    · cases h
theorem neg0 {p : List Nat} {t : Int} (h : wholeL (p.drop (if minusL p = true then 1 else 0)) = some t) : decide (p = [45, 48]) = (minusL p && decide (t = 0)) := by
  cases hm : minusL p with
  | true =>
    rw [hm, if_pos rfl] at h
    unfold minusL at hm
    cases p with
    | nil => simp at hm
    | cons c r =>
      simp at hm
      subst hm
      have := wholeL_zero h
      rw [Bool.eq_iff_iff]
      simp at this
      simp [this]
  | false =>
    rw [Bool.false_and, decide_eq_false_iff_not]
    intro z
    rw [z] at hm
    exact absurd hm (by decide)
def sp__law_number : FSp := fun as m Pq _ => ∃ z : Str, as = [.dat (.str z)] ∧ z.length ≤ 100000 ∧ okS z ∧ Pq (oRat (ratioZ z)) m
local macro_rules | `(tactic| walk_at "var") => `(tactic| first | ((with_reducible refine id_name "text" ?_); refine e_var (i := 0) rfl rfl ?_) | ((with_reducible refine id_name "above" ?_); refine e_var (i := 1) rfl rfl ?_) | ((with_reducible refine id_name "stroke" ?_); refine e_var (i := 2) rfl rfl ?_) | ((with_reducible refine id_name "below" ?_); refine e_var (i := 3) rfl rfl ?_) | ((with_reducible refine id_name "head" ?_); refine e_var (i := 4) rfl rfl ?_) | ((with_reducible refine id_name "top" ?_); refine e_var (i := 5) rfl rfl ?_))
local macro_rules | `(tactic| walk_at "set") => `(tactic| first | ((with_reducible refine id_sset "text" ?_); refine s_set (i := 0) (by assumption) rfl ?_) | ((with_reducible refine id_sset "above" ?_); refine s_set (i := 1) (by assumption) rfl ?_) | ((with_reducible refine id_sset "stroke" ?_); refine s_set (i := 2) (by assumption) rfl ?_) | ((with_reducible refine id_sset "below" ?_); refine s_set (i := 3) (by assumption) rfl ?_) | ((with_reducible refine id_sset "head" ?_); refine s_set (i := 4) (by assumption) rfl ?_) | ((with_reducible refine id_sset "top" ?_); refine s_set (i := 5) (by assumption) rfl ?_))
local macro_rules | `(tactic| walk_at "g1") => `(tactic| first | ((with_reducible refine id_gname "text" ?_); refine g_name (i := 0) (by assumption) rfl ?_) | ((with_reducible refine id_gname "above" ?_); refine g_name (i := 1) (by assumption) rfl ?_) | ((with_reducible refine id_gname "stroke" ?_); refine g_name (i := 2) (by assumption) rfl ?_) | ((with_reducible refine id_gname "below" ?_); refine g_name (i := 3) (by assumption) rfl ?_) | ((with_reducible refine id_gname "head" ?_); refine g_name (i := 4) (by assumption) rfl ?_) | ((with_reducible refine id_gname "top" ?_); refine g_name (i := 5) (by assumption) rfl ?_))
local macro_rules | `(tactic| walk_at "gs1") => `(tactic| first | ((with_reducible refine id_gsname "text" ?_); refine gs_name (i := 0) (by assumption) rfl ?_) | ((with_reducible refine id_gsname "above" ?_); refine gs_name (i := 1) (by assumption) rfl ?_) | ((with_reducible refine id_gsname "stroke" ?_); refine gs_name (i := 2) (by assumption) rfl ?_) | ((with_reducible refine id_gsname "below" ?_); refine gs_name (i := 3) (by assumption) rfl ?_) | ((with_reducible refine id_gsname "head" ?_); refine gs_name (i := 4) (by assumption) rfl ?_) | ((with_reducible refine id_gsname "top" ?_); refine gs_name (i := 5) (by assumption) rfl ?_))
theorem ok__law_number {f : Addr} {fd : FuncData} (B : Bl mg) (Fw : Df P w K mg base 1 "_law_figures" ["signs"] sp__law_figures) (Fd : Df P w K mg base 1 "_law_divisor" ["one", "other"] sp__law_divisor) (D : Dn K mg "_law_number" s__law_number ["text"] f fd) : Df P w K mg base 2 "_law_number" ["text"] sp__law_number := by
  refine Df.mk' D sc__law_number (fun as m P EP ⟨_, e, _⟩ => by rw [e]; rfl) ?_
  rintro cdv A outer s H E hr nd cm po as m Pq EP ⟨z, rfl, hz, ho, hP⟩
  have z2 := B.int
  have em : ("" : Str).cps.toList = [] := by decide +kernel
  have emi : ("-" : Str).cps.toList = [45] := by decide +kernel
  have emz : ("-0" : Str).cps.toList = [45, 48] := by decide +kernel
  unfold ratioZ at hP
  have l1 := (part_1 z "/").len
  have l3 := (part_3 z "/").len
  have o1 := (part_1 z "/").ok ho
  have o3 := (part_3 z "/").ok ho
  walk_at "q"
  · generalize hp1 : (Txt.partition z "/").1 = p1 at *
    generalize hp2 : (Txt.partition z "/").2.1 = p2 at *
    generalize hp3 : (Txt.partition z "/").2.2 = p3 at *
    have emin : PyData.eqv (.str (cutS p1 none (some 1))) (.str "-") = minusL p1.cps.toList := by rw [eqv_strL, emi, cut_1]; rfl
    have ecut : (cutS p1 (some (if minusL p1.cps.toList = true then 1 else 0)) none).cps.toList = p1.cps.toList.drop (if minusL p1.cps.toList = true then 1 else 0) := by
      split
      · exact cut_k p1 1
      · exact cut_k p1 0
    have lcut := (cut_sub p1 (some (if minusL p1.cps.toList = true then 1 else 0)) none).len
    have ocut := (cut_sub p1 (some (if minusL p1.cps.toList = true then 1 else 0)) none).ok o1
    rw [emin]
    walk_at "q"
    · generalize hhd : cutS p1 (some (if minusL p1.cps.toList = true then 1 else 0)) none = hd at *
      refine e_call Fw hr ?_
      walk_at "q"
      refine ⟨by omega, ocut, ?_⟩
      unfold ratio3 at hP
      rw [← ecut] at hP
      cases e : wholeL hd.cps.toList with
      | none =>
        rw [e] at hP
        walk_at "q"
        refine iteT ?_
        walk_at "q"
        exact hP
      | some t =>
        rw [e] at hP
        dsimp only at hP
        have en := neg0 (p := p1.cps.toList) (ecut ▸ e)
        obtain ⟨d1, d2, d3, d4⟩ := wholeL_some e
        have elh : hd.cps.toList.length = hd.length := Array.length_toList
        have ith : PySem.intText? hd = some t := by rw [d4]; exact PySem.intText_digits d1 d2 (by omega)
        walk_at "q"
        refine iteF ?_
        walk_at "q"
        rw [eqv_strL, emz, en]
        refine ite2 (fun h0 => ?_) (fun h0 => ?_)
        · rw [if_pos h0] at hP
          walk_at "q"
          exact hP
        · rw [if_neg h0] at hP
          walk_at "q"
          refine o_int_str ith (by omega) ?_
          walk_at "q"
          · rw [emin]
            generalize hmi : minusL p1.cps.toList = mi at *
            cases mi with
            | true =>
              walk_at "q"
              have hQ0 : Pq (oRat (if p2.cps.toList = [] then some (0 - t, 1) else match wholeL p3.cps.toList with | none => none | some b => if b < 2 ∨ Int.gcd (0 - t) b ≠ 1 then none else some (0 - t, b))) m := hP
              rw [eqv_strL, em]
              refine ite2 (fun h1 => ?_) (fun h1 => ?_)
              · rw [if_pos (of_decide_eq_true h1)] at hQ0
                walk_at "q"
                exact hQ0
              · have h1' : ¬ p2.cps.toList = [] := fun z => h1 (decide_eq_true z)
                rw [if_neg h1'] at hQ0
                walk_at "q"
                refine e_call Fw hr ?_
                walk_at "q"
                refine ⟨by omega, o3, ?_⟩
                cases e3 : wholeL p3.cps.toList with
                | none =>
                  rw [e3] at hQ0
                  walk_at "q"
                  refine iteT ?_
                  walk_at "q"
                  exact hQ0
                | some b =>
                  rw [e3] at hQ0
                  dsimp only at hQ0
                  obtain ⟨d1, d2, d3, d4⟩ := wholeL_some e3
                  have el3 : p3.cps.toList.length = p3.length := Array.length_toList
                  have it3 : PySem.intText? p3 = some b := by rw [d4]; exact PySem.intText_digits d1 d2 (by omega)
                  walk_at "q"
                  refine iteF ?_
                  walk_at "q"
                  refine o_int_str it3 (by omega) ?_
                  walk_at "q"
                  refine ite2 (fun h2 => ?_) (fun h2 => ?_)
                  · rw [if_pos (.inl (of_decide_eq_true h2))] at hQ0
                    walk_at "q"
                    exact hQ0
                  · walk_at "q"
                    refine e_call Fd hr ?_
                    walk_at "q"
                    refine o_int_str it3 (by omega) ?_
                    walk_at "q"
                    refine ⟨_, _, rfl, wholeL_nn e3, ?_⟩
                    walk_at "q"
                    rw [eqv_int]
                    refine ite2 (fun h3 => ?_) (fun h3 => ?_)
                    · rw [if_pos (.inr (gcd_ne h3))] at hQ0
                      walk_at "q"
                      exact hQ0
                    · rw [if_neg (fun z => z.elim (fun z => h2 (decide_eq_true z)) (fun z => z (gcd_one h3)))] at hQ0
                      walk_at "q"
                      refine o_int_str it3 (by omega) ?_
                      walk_at "q"
                      exact hQ0
            | false =>
              walk_at "q"
              have hQ0 : Pq (oRat (if p2.cps.toList = [] then some (t, 1) else match wholeL p3.cps.toList with | none => none | some b => if b < 2 ∨ Int.gcd t b ≠ 1 then none else some (t, b))) m := hP
              rw [eqv_strL, em]
              refine ite2 (fun h1 => ?_) (fun h1 => ?_)
              · rw [if_pos (of_decide_eq_true h1)] at hQ0
                walk_at "q"
                exact hQ0
              · have h1' : ¬ p2.cps.toList = [] := fun z => h1 (decide_eq_true z)
                rw [if_neg h1'] at hQ0
                walk_at "q"
                refine e_call Fw hr ?_
                walk_at "q"
                refine ⟨by omega, o3, ?_⟩
                cases e3 : wholeL p3.cps.toList with
                | none =>
                  rw [e3] at hQ0
                  walk_at "q"
                  refine iteT ?_
                  walk_at "q"
                  exact hQ0
                | some b =>
                  rw [e3] at hQ0
                  dsimp only at hQ0
                  obtain ⟨d1, d2, d3, d4⟩ := wholeL_some e3
                  have el3 : p3.cps.toList.length = p3.length := Array.length_toList
                  have it3 : PySem.intText? p3 = some b := by rw [d4]; exact PySem.intText_digits d1 d2 (by omega)
                  walk_at "q"
                  refine iteF ?_
                  walk_at "q"
                  refine o_int_str it3 (by omega) ?_
                  walk_at "q"
                  refine ite2 (fun h2 => ?_) (fun h2 => ?_)
                  · rw [if_pos (.inl (of_decide_eq_true h2))] at hQ0
                    walk_at "q"
                    exact hQ0
                  · walk_at "q"
                    refine e_call Fd hr ?_
                    walk_at "q"
                    refine o_int_str it3 (by omega) ?_
                    walk_at "q"
                    refine ⟨_, _, rfl, wholeL_nn e3, ?_⟩
                    walk_at "q"
                    rw [eqv_int]
                    refine ite2 (fun h3 => ?_) (fun h3 => ?_)
                    · rw [if_pos (.inr (gcd_ne h3))] at hQ0
                      walk_at "q"
                      exact hQ0
                    · rw [if_neg (fun z => z.elim (fun z => h2 (decide_eq_true z)) (fun z => z (gcd_one h3)))] at hQ0
                      walk_at "q"
                      refine o_int_str it3 (by omega) ?_
                      walk_at "q"
                      exact hQ0
          · omega
  all_goals omega
end
end KK
set_option maxHeartbeats 4000000
namespace KK
open PySem PySem.Spec PyProof.Rows L2 QQ
local macro_rules | `(tactic| walk_at "o2") => `(tactic| first
  | refine o_add_int ?_
  | refine o_sub ?_
  | refine o_cmp ?_
  | refine o_isN ?_
  | refine o_notN ?_
  | refine o_eqS rfl ?_
  | refine o_neS rfl ?_
  | (refine o_add_str ?_ ?_; rotate_left)
  | (refine o_add_lst ?_ ?_; rotate_left)
  | (refine o_mul ?_ ?_; rotate_left)
  | (refine o_mul_str ?_ ?_; rotate_left)
  | (refine o_I ?_ ?_; rotate_left)
  | refine o_inSign ?_
  | refine o_notInSign ?_
  | refine o_ix_tup rfl ?_
  | refine o_ix_lst rfl ?_
  | refine o_ix_fz rfl ?_
  | refine o_ix_own rfl rfl ?_
  | (refine o_ix_str' ?_ ?_ ?_; rotate_left 2)
  | (refine o_ix_lst' ?_ ?_; rotate_left)
  | (refine o_ix_tup' ?_ ?_; rotate_left)
  | (refine o_ix_fz' ?_ ?_; rotate_left)
  | (refine o_eq ?_ ?_ ?_; rotate_left 2)
  | (refine o_ne ?_ ?_ ?_; rotate_left 2))
local macro_rules | `(tactic| walk_at "os") => `(tactic| first
  | (refine sl_str' ?_ ?_; rotate_left)
  | refine sl_lst' ?_
  | refine sl_fz' ?_
  | (refine sl_tup' ?_ ?_; rotate_left))
local macro_rules | `(tactic| walk_at "oa") => `(tactic| first
  | refine o_len_lst ?_
  | refine o_len_tup ?_
  | refine o_len_fz ?_
  | (refine o_len_str ?_ ?_; rotate_left)
  | refine o_len_own rfl ?_
  | refine o_abs ?_
  | refine o_max2 ?_
  | refine o_min2 ?_
  | refine o_int_bl ?_
  | (refine o_int_str ?_ ?_ ?_; rotate_left 2)
  | (refine o_str ?_ ?_; rotate_left)
  | refine o_isi_int ?_
  | refine o_isi_bool ?_
  | refine o_isi_str ?_
  | refine o_isi_tuple ?_
  | refine o_isi_list ?_
  | refine o_isi_dict ?_)
local macro_rules | `(tactic| walk_at "ee") => `(tactic| first
  | ((with_reducible refine id_name _ ?_); walk_at "var")
  | ((with_reducible refine id_const ?_); first | refine e_int ?_ | refine e_str ?_ | refine e_non ?_ | refine e_bl ?_)
  | ((with_reducible refine id_subs ?_); first | refine e_slice ?_ | refine e_sub ix_seq ?_)
  | ((with_reducible refine id_bin .Add ?_); refine e_bin (op := .Add) op_addA ?_)
  | ((with_reducible refine id_bin .Sub ?_); refine e_bin (op := .Sub) op_sub ?_)
  | ((with_reducible refine id_bin .Mult ?_); refine e_bin (op := .Mult) op_mulA ?_)
  | ((with_reducible refine id_bin .FloorDiv ?_); refine e_bin (op := .FloorDiv) op_fdivW ?_)
  | ((with_reducible refine id_bin .Mod ?_); refine e_bin (op := .Mod) op_mod ?_)
  | ((with_reducible refine id_bin .Pow ?_); refine e_bin (op := .Pow) op_pow ?_)
  | ((with_reducible refine id_cmp .Lt ?_); refine e_cmp (op := .Lt) op_lt ?_)
  | ((with_reducible refine id_cmp .LtE ?_); refine e_cmp (op := .LtE) op_le ?_)
  | ((with_reducible refine id_cmp .Gt ?_); refine e_cmp (op := .Gt) op_gt ?_)
  | ((with_reducible refine id_cmp .GtE ?_); refine e_cmp (op := .GtE) op_ge ?_)
  | ((with_reducible refine id_cmp .Is ?_); refine e_cmp (op := .Is) op_isN ?_)
  | ((with_reducible refine id_cmp .IsNot ?_); refine e_cmp (op := .IsNot) op_notN ?_)
  | ((with_reducible refine id_cmp .Eq ?_); refine e_cmp (op := .Eq) (op_eqA (by first | exact Room.units (by assumption) | assumption)) ?_)
  | ((with_reducible refine id_cmp .NotEq ?_); refine e_cmp (op := .NotEq) (op_neA (by first | exact Room.units (by assumption) | assumption)) ?_)
  | ((with_reducible refine id_cmp .In ?_); refine e_cmp (op := .In) op_in_sign ?_)
  | ((with_reducible refine id_cmp .NotIn ?_); refine e_cmp (op := .NotIn) op_notIn_sign ?_)
  | ((with_reducible refine id_calln "len" ?_); refine e_len (by assumption) ?_)
  | ((with_reducible refine id_calln "abs" ?_); refine e_abs (by assumption) ?_)
  | ((with_reducible refine id_calln "int" ?_); refine e_intc (by assumption) ?_)
  | ((with_reducible refine id_calln "str" ?_); refine e_strc (by assumption) ?_)
  | ((with_reducible refine id_calln "max" ?_); refine e_max (by assumption) (by assumption) ?_)
  | ((with_reducible refine id_calln "min" ?_); refine e_min (by assumption) (by assumption) ?_)
  | ((with_reducible refine id_calln "isinstance" ?_); first | refine e_isi (T := "int") (n := "int") (by assumption) (by assumption) ?_ | refine e_isi (T := "bool") (n := "bool") (by assumption) (by assumption) ?_ | refine e_isi (T := "str") (n := "str") (by assumption) (by assumption) ?_ | refine e_isi (T := "tuple") (n := "tuple") (by assumption) (by assumption) ?_ | refine e_isi (T := "list") (n := "list") (by assumption) (by assumption) ?_ | refine e_isi (T := "dict") (n := "dict") (by assumption) (by assumption) ?_)
  | ((with_reducible refine id_callm "partition" ?_); refine e_part ?_)
  | ((with_reducible refine id_callm "split" ?_); refine e_split ?_)
  | ((with_reducible refine id_callm "join" ?_); refine e_join ?_)
  | ((with_reducible refine id_callm "append" ?_); refine e_append ?_)
  | ((with_reducible refine id_bool ?_); first | refine e_one ?_ | refine e_and ?_ | refine e_or ?_)
  | ((with_reducible refine id_un .Not ?_); refine e_not ?_)
  | ((with_reducible refine id_un .USub ?_); refine e_un (op := .USub) un_neg ?_)
  | refine e_tup ?_
  | refine e_fmt ?_
  | refine e_joined ?_
  | refine e_ifExp ?_)
local macro_rules | `(tactic| walk_at "et") => `(tactic| first
  | ((with_reducible refine id_tnot ?_); refine t_not ?_)
  | ((with_reducible refine id_tbool ?_); first | refine t_w (w_and ?_) | refine t_w (w_or ?_))
  | ((with_reducible refine id_tcmp .Lt ?_); refine t_cmp (op := .Lt) op_lt ?_)
  | ((with_reducible refine id_tcmp .LtE ?_); refine t_cmp (op := .LtE) op_le ?_)
  | ((with_reducible refine id_tcmp .Gt ?_); refine t_cmp (op := .Gt) op_gt ?_)
  | ((with_reducible refine id_tcmp .GtE ?_); refine t_cmp (op := .GtE) op_ge ?_)
  | ((with_reducible refine id_tcmp .Is ?_); refine t_cmp (op := .Is) op_isN ?_)
  | ((with_reducible refine id_tcmp .IsNot ?_); refine t_cmp (op := .IsNot) op_notN ?_)
  | ((with_reducible refine id_tcmp .Eq ?_); refine t_cmp (op := .Eq) (op_eqA (by first | exact Room.units (by assumption) | assumption)) ?_)
  | ((with_reducible refine id_tcmp .NotEq ?_); refine t_cmp (op := .NotEq) (op_neA (by first | exact Room.units (by assumption) | assumption)) ?_)
  | ((with_reducible refine id_tcmp .In ?_); refine t_cmp (op := .In) op_in_sign ?_)
  | ((with_reducible refine id_tcmp .NotIn ?_); refine t_cmp (op := .NotIn) op_notIn_sign ?_)
  | ((with_reducible refine id_tcmp2 ?_); first | refine t_chain (op := .LtE) (op' := .LtE) op_le op_le ?_ | refine t_chain (op := .LtE) (op' := .Lt) op_le op_lt ?_ | refine t_chain (op := .Lt) (op' := .Lt) op_lt op_lt ?_)
  | refine t_val ?_)
local macro_rules | `(tactic| walk_at "ew") => `(tactic| first
  | refine w_and1 ?_
  | refine w_or1 ?_
  | refine w_and ?_
  | refine w_or ?_)
local macro_rules | `(tactic| walk_at "es") => `(tactic| first
  | ((with_reducible refine id_sret ?_); refine s_ret ?_)
  | ((with_reducible refine id_sif ?_); refine s_if ?_)
  | ((with_reducible refine id_sset _ ?_); walk_at "set")
  | ((with_reducible refine id_sasg ?_); refine s_asg ?_)
  | ((with_reducible refine id_sexpr ?_); refine s_expr ?_)
  | refine s_retN ?_
  | refine s_pass ?_)
local macro_rules | `(tactic| walk_at "q1") => `(tactic| first
  | ((with_reducible refine id_e ?_); walk_at "ee")
  | ((with_reducible refine id_o2 ?_); walk_at "o2")
  | ((with_reducible refine id_o1 ?_); refine o_neg (k := fun i => -i) rfl ?_)
  | ((with_reducible refine id_b ?_); first | refine b_cons ?_ | refine b_nil ?_)
  | ((with_reducible refine id_s ?_); walk_at "es")
  | ((with_reducible refine id_t ?_); walk_at "et")
  | ((with_reducible refine id_w ?_); walk_at "ew")
  | ((with_reducible refine id_a ?_); first | refine a_cons ?_ | refine a_nil ?_)
  | ((with_reducible refine id_oa ?_); walk_at "oa")
  | ((with_reducible refine id_os ?_); walk_at "os")
  | ((with_reducible refine id_p ?_); first | refine p_none ?_ | refine p_some ?_)
  | ((with_reducible refine id_gs ?_); first | refine gs_nil ?_ | walk_at "gs1")
  | ((with_reducible refine id_g ?_); first | walk_at "g1" | refine g_tup (by assumption) ?_ | refine g_unl (by assumption) ?_)
  | (with_reducible refine iteT ?_)
  | (with_reducible refine iteF ?_)
  | refine j_cons ?_
  | refine j_nil ?_
  | (refine o_fmt_int ?_ ?_; rotate_left)
  | (refine o_fmt_str ?_ ?_; rotate_left)
  | refine o_T rfl (Nat.le_of_ble_eq_true rfl) ?_
  | (refine o_part rfl ?_ ?_; rotate_left)
  | (refine o_split rfl ?_ ?_; rotate_left)
  | (refine o_j ?_ ?_; rotate_left)
  | (refine o_app (by assumption) ?_ ?_; rotate_left)
  | refine ⟨_, rfl, ?_⟩
  | refine ⟨⟨_, by assumption⟩, ?_⟩)
local macro_rules | `(tactic| walk_at "q") => `(tactic| repeat walk_at "q1")
local macro_rules | `(tactic| walk_at "qs") => `(tactic| repeat' (first | walk_at "q1" | refine ite2 (fun _ => ?_) (fun _ => ?_)))
local macro_rules | `(tactic| walk_at "len") => `(tactic| ((try simp only [Str.empty_append, Str.length_append]); (try (have : ("/" : Str).length = 1 := rfl)); omega))
section
variable {P : Program} {w : World} {K : PySem.W.Frag} {mg : Str → Option Value} {base : Heap} {CN CE : Addr}
/-- the classes -/
structure Xc (P : Program) (w : World) (K : PySem.W.Frag) (mg : Str → Option Value) (base : Heap) (CN CE : Addr) : Prop where
  one : ExOne P w K mg base "NoText" "row" CN
  cut : mg "CutError" = some (.ref CE)
  ve : mg "ValueError" = none
  exm : PySem.W.exmOne K (.ref CN) (.ref CE) = some true
  isN : PySem.W.kitOne K (.ref CN) (.ref CN) = some true
  isV : PySem.W.kitOne K (.ref CN) (.type "ValueError") = some true
  xf : XfC K CN
  ec : ExcC K CN
theorem eqv_fr (a b c d : Int) : PyData.eqv (fr a b) (fr c d) = (decide (a = c) && decide (b = d)) := by
  show (PyData.eqv (.int a) (.int c) && (PyData.eqv (.int b) (.int d) && true)) = _
  rw [eqv_int, eqv_int, Bool.and_true]
theorem shaped_fr (a b : Int) : SeqAt.shaped (fr a b) = true := shaped_tup rfl
def readD : PyData → Option (Int × Int)
  | .str z => ratioZ z
  | _ => none
def lenD (d : PyData) : Prop := ∀ z, d = .str z → z.length ≤ 100000
def sp_read_ratio (CN : Addr) : FSp := fun as m Pq EP => ∃ d : PyData, as = [.dat d] ∧ lenD d ∧ (∀ a b, readD d = some (a, b) → Pq (.dat (fr a b)) m) ∧ (readD d = none → EP CN (some [("row", .int 0)]) m)
local macro_rules | `(tactic| walk_at "var") => `(tactic| first | ((with_reducible refine id_name "text" ?_); refine e_var (i := 0) rfl rfl ?_) | ((with_reducible refine id_name "found" ?_); refine e_var (i := 1) rfl rfl ?_))
local macro_rules | `(tactic| walk_at "set") => `(tactic| first | ((with_reducible refine id_sset "text" ?_); refine s_set (i := 0) (by assumption) rfl ?_) | ((with_reducible refine id_sset "found" ?_); refine s_set (i := 1) (by assumption) rfl ?_))
local macro_rules | `(tactic| walk_at "g1") => `(tactic| first | ((with_reducible refine id_gname "text" ?_); refine g_name (i := 0) (by assumption) rfl ?_) | ((with_reducible refine id_gname "found" ?_); refine g_name (i := 1) (by assumption) rfl ?_))
local macro_rules | `(tactic| walk_at "gs1") => `(tactic| first | ((with_reducible refine id_gsname "text" ?_); refine gs_name (i := 0) (by assumption) rfl ?_) | ((with_reducible refine id_gsname "found" ?_); refine gs_name (i := 1) (by assumption) rfl ?_))
theorem ok_read_ratio {f : Addr} {fd : FuncData} (B : Bl mg) (Xx : Xc P w K mg base CN CE) (Fr : Df P w K mg base 2 "ratio_in" ["text"] sp_ratio_in) (D : Dn K mg "read_ratio" s_read_ratio ["text"] f fd) : Df P w K mg base 3 "read_ratio" ["text"] (sp_read_ratio CN) := by
  refine Df.mk' D sc_read_ratio (fun as m P EP ⟨_, e, _⟩ => by rw [e]; rfl) ?_
  rintro cdv A outer s H E hr nd cm po as m Pq EP ⟨d, rfl, hl, h1, h2⟩
  have z1 := B.isinstance
  have z2 := B.str
  walk_at "q"
  cases d with
  | str z =>
    refine iteT ?_
    walk_at "q"
    refine e_call Fr hr ?_
    walk_at "q"
    refine ⟨hl z rfl, ?_⟩
    walk_at "q"
    cases e : ratioZ z with
    | none =>
      refine iteT ?_
      walk_at "q"
      refine s_raise cm (em_one Xx.one hr ?_)
      walk_at "q"
      exact h2 e
    | some ab =>
      obtain ⟨a, b⟩ := ab
      refine iteF ?_
      walk_at "q"
      exact h1 a b e
  | _ =>
    refine iteF ?_
    walk_at "q"
    refine iteT ?_
    walk_at "q"
    refine s_raise cm (em_one Xx.one hr ?_)
    walk_at "q"
    exact h2 rfl
local macro_rules | `(tactic| walk_at "var") => `(tactic| first | ((with_reducible refine id_name "thing" ?_); refine e_var (i := 0) rfl rfl ?_))
local macro_rules | `(tactic| walk_at "set") => `(tactic| first | ((with_reducible refine id_sset "thing" ?_); refine s_set (i := 0) (by assumption) rfl ?_))
local macro_rules | `(tactic| walk_at "g1") => `(tactic| first | ((with_reducible refine id_gname "thing" ?_); refine g_name (i := 0) (by assumption) rfl ?_))
local macro_rules | `(tactic| walk_at "gs1") => `(tactic| first | ((with_reducible refine id_gsname "thing" ?_); refine gs_name (i := 0) (by assumption) rfl ?_))
theorem okH__law_whole {f : Addr} {fd : FuncData} (B : Bl mg) (D : Dn K mg "_law_whole" s__law_whole ["thing"] f fd) : DfH P w K mg base 1 "_law_whole" ["thing"] sp__law_whole := by
  refine DfH.mk' D sc__law_whole (fun as m P EP ⟨_, e, _⟩ => by rw [e]; rfl) ?_
  rintro cdv A outer s H E q hr nd hot po as m Pq EP ⟨d, rfl, hP⟩
  have z1 := B.isinstance
  have z2 := B.int
  have z3 := B.bool
  walk_at "q"
  unfold isInt at hP
  cases h : d_int d with
  | true =>
    rw [h] at hP
    refine iteT ?_
    walk_at "q"
    exact hP
  | false =>
    rw [h] at hP
    exact iteF hP
/-- what may be told to _law_right -/
def tellD (d : PyData) : Prop := ∀ z, d = .str z → z.length ≤ 100000 ∧ okS z
def sp__law_right : FSp := fun as m Pq EP => ∃ d : PyData, as = [.dat d] ∧ tellD d ∧ Pq (.dat (.bool true)) m
local macro_rules | `(tactic| walk_at "var") => `(tactic| first | ((with_reducible refine id_name "thing" ?_); refine e_var (i := 0) rfl rfl ?_) | ((with_reducible refine id_name "due" ?_); refine e_var (i := 1) rfl rfl ?_) | ((with_reducible refine id_name "found" ?_); refine e_var (i := 2) rfl rfl ?_) | ((with_reducible refine id_name "told" ?_); refine e_var (i := 3) rfl rfl ?_) | ((with_reducible refine id_name "refused" ?_); refine e_var (i := 4) rfl rfl ?_) | ((with_reducible refine id_name "e" ?_); refine e_var (i := 5) rfl rfl ?_))
local macro_rules | `(tactic| walk_at "set") => `(tactic| first | ((with_reducible refine id_sset "thing" ?_); refine s_set (i := 0) (by assumption) rfl ?_) | ((with_reducible refine id_sset "due" ?_); refine s_set (i := 1) (by assumption) rfl ?_) | ((with_reducible refine id_sset "found" ?_); refine s_set (i := 2) (by assumption) rfl ?_) | ((with_reducible refine id_sset "told" ?_); refine s_set (i := 3) (by assumption) rfl ?_) | ((with_reducible refine id_sset "refused" ?_); refine s_set (i := 4) (by assumption) rfl ?_) | ((with_reducible refine id_sset "e" ?_); refine s_set (i := 5) (by assumption) rfl ?_))
local macro_rules | `(tactic| walk_at "g1") => `(tactic| first | ((with_reducible refine id_gname "thing" ?_); refine g_name (i := 0) (by assumption) rfl ?_) | ((with_reducible refine id_gname "due" ?_); refine g_name (i := 1) (by assumption) rfl ?_) | ((with_reducible refine id_gname "found" ?_); refine g_name (i := 2) (by assumption) rfl ?_) | ((with_reducible refine id_gname "told" ?_); refine g_name (i := 3) (by assumption) rfl ?_) | ((with_reducible refine id_gname "refused" ?_); refine g_name (i := 4) (by assumption) rfl ?_) | ((with_reducible refine id_gname "e" ?_); refine g_name (i := 5) (by assumption) rfl ?_))
local macro_rules | `(tactic| walk_at "gs1") => `(tactic| first | ((with_reducible refine id_gsname "thing" ?_); refine gs_name (i := 0) (by assumption) rfl ?_) | ((with_reducible refine id_gsname "due" ?_); refine gs_name (i := 1) (by assumption) rfl ?_) | ((with_reducible refine id_gsname "found" ?_); refine gs_name (i := 2) (by assumption) rfl ?_) | ((with_reducible refine id_gsname "told" ?_); refine gs_name (i := 3) (by assumption) rfl ?_) | ((with_reducible refine id_gsname "refused" ?_); refine gs_name (i := 4) (by assumption) rfl ?_) | ((with_reducible refine id_gsname "e" ?_); refine gs_name (i := 5) (by assumption) rfl ?_))
theorem ok__law_right {f : Addr} {fd : FuncData} (B : Bl mg) (Xx : Xc P w K mg base CN CE) (Fr : Df P w K mg base 3 "read_ratio" ["text"] (sp_read_ratio CN)) (Fn : Df P w K mg base 2 "_law_number" ["text"] sp__law_number)
    (Fw : Df P w K mg base 1 "_law_whole" ["thing"] sp__law_whole) (Fh : DfH P w K mg base 1 "_law_whole" ["thing"] sp__law_whole)
    (D : Dn K mg "_law_right" s__law_right ["thing"] f fd) : Df P w K mg base 4 "_law_right" ["thing"] sp__law_right := by
  refine Df.mk' D sc__law_right (fun as m P EP ⟨_, e, _⟩ => by rw [e]; rfl) ?_
  rintro cdv A outer s H E hr nd cm po as m Pq EP ⟨d, rfl, hl, hP⟩
  have z1 := B.isinstance
  have z2 := B.str
  have z3 := B.tuple
  -- from the try on
  have rest : ∀ r, readD d = r → Eb (bodyX P w K mg base n__law_right "_law_right" (defScope s__law_right) f cdv A outer s H E) (omX EP) ((defBody s__law_right).drop 2) [some (.dat d), some (oRat r), none, none, none, none] m { nx := fun _ m1 => Pq (.dat .none) m1, rt := Pq } := by
    intro r hr1
    walk_at "q"
    refine s_try 5 ⟨by rfl, by decide, .inl Xx.cut⟩ (fun pn xe po1 => ?_) nd
    walk_at "q"
    refine e_call Fr hr ?_
    walk_at "q"
    refine ⟨fun z hz => (hl z hz).1, fun a b e => ?_, fun e => ?_⟩
    · obtain rfl := hr1.symm.trans e
      walk_at "q"
      refine iteF ?_
      walk_at "q"
      refine iteF ?_
      walk_at "q"
      any_goals exact shaped_fr a b
      rw [eqv_fr]
      refine ite2 (fun h => absurd h (by simp)) (fun _ => ?_)
      walk_at "q"
      have hw : Room 1 (bodyX P w K mg base n__law_right "_law_right" (defScope s__law_right) f cdv A outer s H E).A := hr.mono (by decide)
      refine e_call Fw hw ?_
      walk_at "q"
      refine iteT ?_
      walk_at "q"
      refine e_call Fw hw ?_
      walk_at "q"
      exact hP
    · refine ⟨true, Xx.exm, fun _ ad oe dd pn2 hz hf => ?_, fun z => nomatch z⟩
      have hrS := roomS (ad := ad) (q := (ad, oe)) (pn := pn2) hr
      have hU := unitS (ad := ad) (q := (ad, oe)) (pn := pn2) hr
      have hot := hot_suite (X := bodyX P w K mg base n__law_right "_law_right" (defScope s__law_right) f cdv A outer s H E) (ad := ad) (pn := pn2) hz hf
      walk_at "q"
      refine e_isX Xx.ec hz hf z1 ?_
      walk_at "q"
      refine e_cl Xx.one.nm ?_
      walk_at "q"
      refine o_isX_cl Xx.isN ?_
      walk_at "q"
      refine e_isX Xx.ec hz hf z1 ?_
      walk_at "q"
      refine e_ty (n := "ValueError") Xx.ve ?_
      walk_at "q"
      refine o_isX_ty Xx.isV ?_
      walk_at "q"
      refine e_callH Fh (hrS.mono (by decide)) hot ?_
      walk_at "q"
      refine e_xf (fs := some [("row", .int 0)]) Xx.xf Xx.one.no hz hf ?_
      walk_at "q"
      refine ⟨rfl, _, .int 0, rfl, rfl, ?_⟩
      walk_at "q"
      refine iteT ?_
      walk_at "q"
      refine e_xf (fs := some [("row", .int 0)]) Xx.xf Xx.one.no hz hf ?_
      walk_at "q"
      refine ⟨rfl, _, .int 0, rfl, rfl, ?_⟩
      walk_at "q"
      obtain rfl := hr1.symm.trans e
      refine iteT ?_
      walk_at "q"
      exact hP
  walk_at "q"
  cases d with
  | str z =>
    refine iteT ?_
    walk_at "q"
    refine e_call Fn (hr.mono (by decide)) ?_
    walk_at "q"
    refine ⟨(hl z rfl).1, (hl z rfl).2, ?_⟩
    exact b_nil (rest _ rfl)
  | _ =>
    refine iteF ?_
    exact b_nil (rest _ rfl)
end
end KK
set_option maxHeartbeats 4000000
namespace KK
open PySem PySem.Spec PyProof.Rows L2 QQ
local macro_rules | `(tactic| walk_at "o2") => `(tactic| first
  | refine o_add_int ?_
  | refine o_sub ?_
  | refine o_cmp ?_
  | refine o_isN ?_
  | refine o_notN ?_
  | refine o_eqS rfl ?_
  | refine o_neS rfl ?_
  | (refine o_add_str ?_ ?_; rotate_left)
  | (refine o_add_lst ?_ ?_; rotate_left)
  | (refine o_mul ?_ ?_; rotate_left)
  | (refine o_mul_str ?_ ?_; rotate_left)
  | (refine o_I ?_ ?_; rotate_left)
  | refine o_inSign ?_
  | refine o_notInSign ?_
  | refine o_ix_tup rfl ?_
  | refine o_ix_lst rfl ?_
  | refine o_ix_fz rfl ?_
  | refine o_ix_own rfl rfl ?_
  | (refine o_ix_str' ?_ ?_ ?_; rotate_left 2)
  | (refine o_ix_lst' ?_ ?_; rotate_left)
  | (refine o_ix_tup' ?_ ?_; rotate_left)
  | (refine o_ix_fz' ?_ ?_; rotate_left)
  | (refine o_eq ?_ ?_ ?_; rotate_left 2)
  | (refine o_ne ?_ ?_ ?_; rotate_left 2))
local macro_rules | `(tactic| walk_at "os") => `(tactic| first
  | (refine sl_str' ?_ ?_; rotate_left)
  | refine sl_lst' ?_
  | refine sl_fz' ?_
  | (refine sl_tup' ?_ ?_; rotate_left))
local macro_rules | `(tactic| walk_at "oa") => `(tactic| first
  | refine o_len_lst ?_
  | refine o_len_tup ?_
  | refine o_len_fz ?_
  | (refine o_len_str ?_ ?_; rotate_left)
  | refine o_len_own rfl ?_
  | refine o_abs ?_
  | refine o_max2 ?_
  | refine o_min2 ?_
  | refine o_int_bl ?_
  | (refine o_int_str ?_ ?_ ?_; rotate_left 2)
  | (refine o_str ?_ ?_; rotate_left)
  | refine o_isi_int ?_
  | refine o_isi_bool ?_
  | refine o_isi_str ?_
  | refine o_isi_tuple ?_
  | refine o_isi_list ?_
  | refine o_isi_dict ?_)
local macro_rules | `(tactic| walk_at "ee") => `(tactic| first
  | ((with_reducible refine id_name _ ?_); walk_at "var")
  | ((with_reducible refine id_const ?_); first | refine e_int ?_ | refine e_str ?_ | refine e_non ?_ | refine e_bl ?_)
  | ((with_reducible refine id_subs ?_); first | refine e_slice ?_ | refine e_sub ix_seq ?_)
  | ((with_reducible refine id_bin .Add ?_); refine e_bin (op := .Add) op_addA ?_)
  | ((with_reducible refine id_bin .Sub ?_); refine e_bin (op := .Sub) op_sub ?_)
  | ((with_reducible refine id_bin .Mult ?_); refine e_bin (op := .Mult) op_mulA ?_)
  | ((with_reducible refine id_bin .FloorDiv ?_); refine e_bin (op := .FloorDiv) op_fdivW ?_)
  | ((with_reducible refine id_bin .Mod ?_); refine e_bin (op := .Mod) op_mod ?_)
  | ((with_reducible refine id_bin .Pow ?_); refine e_bin (op := .Pow) op_pow ?_)
  | ((with_reducible refine id_cmp .Lt ?_); refine e_cmp (op := .Lt) op_lt ?_)
  | ((with_reducible refine id_cmp .LtE ?_); refine e_cmp (op := .LtE) op_le ?_)
  | ((with_reducible refine id_cmp .Gt ?_); refine e_cmp (op := .Gt) op_gt ?_)
  | ((with_reducible refine id_cmp .GtE ?_); refine e_cmp (op := .GtE) op_ge ?_)
  | ((with_reducible refine id_cmp .Is ?_); refine e_cmp (op := .Is) op_isN ?_)
  | ((with_reducible refine id_cmp .IsNot ?_); refine e_cmp (op := .IsNot) op_notN ?_)
  | ((with_reducible refine id_cmp .Eq ?_); refine e_cmp (op := .Eq) (op_eqA (by first | exact Room.units (by assumption) | assumption)) ?_)
  | ((with_reducible refine id_cmp .NotEq ?_); refine e_cmp (op := .NotEq) (op_neA (by first | exact Room.units (by assumption) | assumption)) ?_)
  | ((with_reducible refine id_cmp .In ?_); refine e_cmp (op := .In) op_in_sign ?_)
  | ((with_reducible refine id_cmp .NotIn ?_); refine e_cmp (op := .NotIn) op_notIn_sign ?_)
  | ((with_reducible refine id_calln "len" ?_); refine e_len (by assumption) ?_)
  | ((with_reducible refine id_calln "abs" ?_); refine e_abs (by assumption) ?_)
  | ((with_reducible refine id_calln "int" ?_); refine e_intc (by assumption) ?_)
  | ((with_reducible refine id_calln "str" ?_); refine e_strc (by assumption) ?_)
  | ((with_reducible refine id_calln "max" ?_); refine e_max (by assumption) (by assumption) ?_)
  | ((with_reducible refine id_calln "min" ?_); refine e_min (by assumption) (by assumption) ?_)
  | ((with_reducible refine id_calln "isinstance" ?_); first | refine e_isi (T := "int") (n := "int") (by assumption) (by assumption) ?_ | refine e_isi (T := "bool") (n := "bool") (by assumption) (by assumption) ?_ | refine e_isi (T := "str") (n := "str") (by assumption) (by assumption) ?_ | refine e_isi (T := "tuple") (n := "tuple") (by assumption) (by assumption) ?_ | refine e_isi (T := "list") (n := "list") (by assumption) (by assumption) ?_ | refine e_isi (T := "dict") (n := "dict") (by assumption) (by assumption) ?_)
  | ((with_reducible refine id_callm "partition" ?_); refine e_part ?_)
  | ((with_reducible refine id_callm "split" ?_); refine e_split ?_)
  | ((with_reducible refine id_callm "join" ?_); refine e_join ?_)
  | ((with_reducible refine id_callm "append" ?_); refine e_append ?_)
  | ((with_reducible refine id_bool ?_); first | refine e_one ?_ | refine e_and ?_ | refine e_or ?_)
  | ((with_reducible refine id_un .Not ?_); refine e_not ?_)
  | ((with_reducible refine id_un .USub ?_); refine e_un (op := .USub) un_neg ?_)
  | refine e_tup ?_
  | refine e_fmt ?_
  | refine e_joined ?_
  | refine e_ifExp ?_)
local macro_rules | `(tactic| walk_at "et") => `(tactic| first
  | ((with_reducible refine id_tnot ?_); refine t_not ?_)
  | ((with_reducible refine id_tbool ?_); first | refine t_w (w_and ?_) | refine t_w (w_or ?_))
  | ((with_reducible refine id_tcmp .Lt ?_); refine t_cmp (op := .Lt) op_lt ?_)
  | ((with_reducible refine id_tcmp .LtE ?_); refine t_cmp (op := .LtE) op_le ?_)
  | ((with_reducible refine id_tcmp .Gt ?_); refine t_cmp (op := .Gt) op_gt ?_)
  | ((with_reducible refine id_tcmp .GtE ?_); refine t_cmp (op := .GtE) op_ge ?_)
  | ((with_reducible refine id_tcmp .Is ?_); refine t_cmp (op := .Is) op_isN ?_)
  | ((with_reducible refine id_tcmp .IsNot ?_); refine t_cmp (op := .IsNot) op_notN ?_)
  | ((with_reducible refine id_tcmp .Eq ?_); refine t_cmp (op := .Eq) (op_eqA (by first | exact Room.units (by assumption) | assumption)) ?_)
  | ((with_reducible refine id_tcmp .NotEq ?_); refine t_cmp (op := .NotEq) (op_neA (by first | exact Room.units (by assumption) | assumption)) ?_)
  | ((with_reducible refine id_tcmp .In ?_); refine t_cmp (op := .In) op_in_sign ?_)
  | ((with_reducible refine id_tcmp .NotIn ?_); refine t_cmp (op := .NotIn) op_notIn_sign ?_)
  | ((with_reducible refine id_tcmp2 ?_); first | refine t_chain (op := .LtE) (op' := .LtE) op_le op_le ?_ | refine t_chain (op := .LtE) (op' := .Lt) op_le op_lt ?_ | refine t_chain (op := .Lt) (op' := .Lt) op_lt op_lt ?_)
  | refine t_val ?_)
local macro_rules | `(tactic| walk_at "ew") => `(tactic| first
  | refine w_and1 ?_
  | refine w_or1 ?_
  | refine w_and ?_
  | refine w_or ?_)
local macro_rules | `(tactic| walk_at "es") => `(tactic| first
  | ((with_reducible refine id_sret ?_); refine s_ret ?_)
  | ((with_reducible refine id_sif ?_); refine s_if ?_)
  | ((with_reducible refine id_sset _ ?_); walk_at "set")
  | ((with_reducible refine id_sasg ?_); refine s_asg ?_)
  | ((with_reducible refine id_sexpr ?_); refine s_expr ?_)
  | refine s_retN ?_
  | refine s_pass ?_)
local macro_rules | `(tactic| walk_at "q1") => `(tactic| first
  | ((with_reducible refine id_e ?_); walk_at "ee")
  | ((with_reducible refine id_o2 ?_); walk_at "o2")
  | ((with_reducible refine id_o1 ?_); refine o_neg (k := fun i => -i) rfl ?_)
  | ((with_reducible refine id_b ?_); first | refine b_cons ?_ | refine b_nil ?_)
  | ((with_reducible refine id_s ?_); walk_at "es")
  | ((with_reducible refine id_t ?_); walk_at "et")
  | ((with_reducible refine id_w ?_); walk_at "ew")
  | ((with_reducible refine id_a ?_); first | refine a_cons ?_ | refine a_nil ?_)
  | ((with_reducible refine id_oa ?_); walk_at "oa")
  | ((with_reducible refine id_os ?_); walk_at "os")
  | ((with_reducible refine id_p ?_); first | refine p_none ?_ | refine p_some ?_)
  | ((with_reducible refine id_gs ?_); first | refine gs_nil ?_ | walk_at "gs1")
  | ((with_reducible refine id_g ?_); first | walk_at "g1" | refine g_tup (by assumption) ?_ | refine g_unl (by assumption) ?_)
  | (with_reducible refine iteT ?_)
  | (with_reducible refine iteF ?_)
  | refine j_cons ?_
  | refine j_nil ?_
  | (refine o_fmt_int ?_ ?_; rotate_left)
  | (refine o_fmt_str ?_ ?_; rotate_left)
  | refine o_T rfl (Nat.le_of_ble_eq_true rfl) ?_
  | (refine o_part rfl ?_ ?_; rotate_left)
  | (refine o_split rfl ?_ ?_; rotate_left)
  | (refine o_j ?_ ?_; rotate_left)
  | (refine o_app (by assumption) ?_ ?_; rotate_left)
  | refine ⟨_, rfl, ?_⟩
  | refine ⟨⟨_, by assumption⟩, ?_⟩)
local macro_rules | `(tactic| walk_at "q") => `(tactic| repeat walk_at "q1")
local macro_rules | `(tactic| walk_at "qs") => `(tactic| repeat' (first | walk_at "q1" | refine ite2 (fun _ => ?_) (fun _ => ?_)))
local macro_rules | `(tactic| walk_at "len") => `(tactic| ((try simp only [Str.empty_append, Str.length_append]); (try (have : ("/" : Str).length = 1 := rfl)); omega))
section
variable {P : Program} {w : World} {K : PySem.W.Frag} {mg : Str → Option Value} {base : Heap} {CN CE : Addr}
def Drawn1 (x z : Int) : Prop := 0 ≤ x ∧ x < z
def sp__law_draws : FSp := fun as m Pq _ => ∃ (c : Int) (zs : List Int), as = [.dat (.int c), .dat (.list (zs.map .int))] ∧ (∀ z ∈ zs, 0 < z ∧ Lt2 900 z) ∧ zs.length ≤ 1000 ∧ ∀ xs : List Int, Paired Drawn1 xs zs → Pq (.dat (.list (xs.map .int))) m
local macro_rules | `(tactic| walk_at "var") => `(tactic| first | ((with_reducible refine id_name "cell" ?_); refine e_var (i := 0) rfl rfl ?_) | ((with_reducible refine id_name "sizes" ?_); refine e_var (i := 1) rfl rfl ?_) | ((with_reducible refine id_name "number" ?_); refine e_var (i := 2) rfl rfl ?_) | ((with_reducible refine id_name "left" ?_); refine e_var (i := 3) rfl rfl ?_) | ((with_reducible refine id_name "found" ?_); refine e_var (i := 4) rfl rfl ?_) | ((with_reducible refine id_name "k" ?_); refine e_var (i := 5) rfl rfl ?_) | ((with_reducible refine id_name "one" ?_); refine e_var (i := 6) rfl rfl ?_))
local macro_rules | `(tactic| walk_at "set") => `(tactic| first | ((with_reducible refine id_sset "cell" ?_); refine s_set (i := 0) (by assumption) rfl ?_) | ((with_reducible refine id_sset "sizes" ?_); refine s_set (i := 1) (by assumption) rfl ?_) | ((with_reducible refine id_sset "number" ?_); refine s_set (i := 2) (by assumption) rfl ?_) | ((with_reducible refine id_sset "left" ?_); refine s_set (i := 3) (by assumption) rfl ?_) | ((with_reducible refine id_sset "found" ?_); refine s_set (i := 4) (by assumption) rfl ?_) | ((with_reducible refine id_sset "k" ?_); refine s_set (i := 5) (by assumption) rfl ?_) | ((with_reducible refine id_sset "one" ?_); refine s_set (i := 6) (by assumption) rfl ?_))
local macro_rules | `(tactic| walk_at "g1") => `(tactic| first | ((with_reducible refine id_gname "cell" ?_); refine g_name (i := 0) (by assumption) rfl ?_) | ((with_reducible refine id_gname "sizes" ?_); refine g_name (i := 1) (by assumption) rfl ?_) | ((with_reducible refine id_gname "number" ?_); refine g_name (i := 2) (by assumption) rfl ?_) | ((with_reducible refine id_gname "left" ?_); refine g_name (i := 3) (by assumption) rfl ?_) | ((with_reducible refine id_gname "found" ?_); refine g_name (i := 4) (by assumption) rfl ?_) | ((with_reducible refine id_gname "k" ?_); refine g_name (i := 5) (by assumption) rfl ?_) | ((with_reducible refine id_gname "one" ?_); refine g_name (i := 6) (by assumption) rfl ?_))
local macro_rules | `(tactic| walk_at "gs1") => `(tactic| first | ((with_reducible refine id_gsname "cell" ?_); refine gs_name (i := 0) (by assumption) rfl ?_) | ((with_reducible refine id_gsname "sizes" ?_); refine gs_name (i := 1) (by assumption) rfl ?_) | ((with_reducible refine id_gsname "number" ?_); refine gs_name (i := 2) (by assumption) rfl ?_) | ((with_reducible refine id_gsname "left" ?_); refine gs_name (i := 3) (by assumption) rfl ?_) | ((with_reducible refine id_gsname "found" ?_); refine gs_name (i := 4) (by assumption) rfl ?_) | ((with_reducible refine id_gsname "k" ?_); refine gs_name (i := 5) (by assumption) rfl ?_) | ((with_reducible refine id_gsname "one" ?_); refine gs_name (i := 6) (by assumption) rfl ?_))
theorem ok__law_draws {f : Addr} {fd : FuncData} (B : Bl mg) (D : Dn K mg "_law_draws" s__law_draws ["cell", "sizes"] f fd) : Df P w K mg base 1 "_law_draws" ["cell", "sizes"] sp__law_draws := by
  refine Df.mk' D sc__law_draws (fun as m P EP ⟨_, _, e, _⟩ => by rw [e]; rfl) ?_
  rintro cdv A outer s H E hr nd cm po as m Pq EP ⟨c, zs, rfl, hz, hl, hP⟩
  have z1 := B.max
  have z2 := B.len
  have z3 := B.range
  walk_at "q"
  refine e_lstM ?_
  walk_at "q"
  refine ⟨by decide, fun p hp => ?_⟩
  walk_at "q"
  refine s_forR po cm z3 ?_
  walk_at "q"
  refine ⟨by rw [List.length_map]; omega, by rw [List.length_map]; omega, ⟨fun k δ' m' => ∃ (xs : List Int) (num l : Int) (a b : Option AV), Paired Drawn1 xs (zs.take k) ∧
    δ' = [some (.dat (.int c)), some (.dat (.list (zs.map .int))), some (.dat (.int num)), some (.dat (.int l)), some (.ptr p), a, b] ∧ m' = m.up p (.lst (xs.map fun x => .dat (.int x))), ?_, ?_, ?_⟩⟩
  · exact ⟨[], _, _, none, none, .nil, rfl, rfl⟩
  · rintro k d δ' m' hd ⟨xs, num, l, a, b, hx, rfl, rfl⟩
    obtain ⟨hk, rfl⟩ := rangeD_at hd
    rw [List.length_map, Int.toNat_natCast] at hk
    have hzk : zs[k]? = some zs[k] := List.getElem?_eq_getElem hk
    have hgd : (zs.map PyData.int).getD ((k : Int)).toNat .none = .int zs[k] := by
      simp [hk]
    have kk : 0 ≤ 1009 * (k : Int) * k ∧ 1009 * (k : Int) * k ≤ 1009000 * k := by
      have h1 : (0 : Int) ≤ k := by omega
      have h2 : (k : Int) ≤ 1000 := by omega
      refine ⟨Int.mul_nonneg (Int.mul_nonneg (by decide) h1) h1, Int.mul_le_mul_of_nonneg_right (by omega) h1⟩
    obtain ⟨hz0, hz2⟩ := hz _ (List.getElem_mem hk)
    have hxl : xs.length = k := by rw [Paired.length hx, List.length_take]; omega
    have hm : (m.up p (.lst (xs.map fun x => AV.dat (.int x)))) p = some (.lst (xs.map fun x => AV.dat (.int x))) := up_same
    have step : ∀ x : Int, 0 ≤ x → x < zs[k] → Paired Drawn1 (xs ++ [x]) (zs.take (k + 1)) := fun x h1 h2 => by
      rw [take_snoc hzk]
      exact hx.snoc ⟨h1, h2⟩
    walk_at "q"
    rotate_left
    · exact ⟨by decide, by decide, by decide⟩
    walk_at "qs"
    all_goals try rw [hgd]
    all_goals try walk_at "q"
    all_goals try rw [hgd]
    all_goals try walk_at "q"
    all_goals first
      | exact hz0
      | decide
      | exact ⟨hz0, Nat.lt_trans (hz2.log (by decide)) (by decide)⟩
      | exact mul64 (by omega) (by omega)
      | exact div64 (by decide) (by decide)
      | (rw [List.length_map]; omega)
      | (rw [List.length_map]; exact ⟨by omega, by omega⟩)
      | exact ⟨_, _, _, _, _, step _ (Int.emod_nonneg _ (by omega)) (Int.emod_lt_of_pos _ hz0), rfl, by rw [up_up, List.map_append]; rfl⟩
  · rintro δ' m' ⟨xs, num, l, a, b, hx, rfl, rfl⟩
    rw [rangeD_len, List.length_map, Int.toNat_natCast, List.take_length] at hx
    refine b_cons (s_ret (Ee.fix ?_))
    walk_at "q"
    exact ⟨p, _, _, rfl, up_same, datas_ints xs, by rw [up_no hp]; exact hP xs hx⟩
end
end KK
set_option maxHeartbeats 4000000
namespace KK
open PySem PySem.Spec PyProof.Rows L2 QQ
local macro_rules | `(tactic| walk_at "o2") => `(tactic| first
  | refine o_add_int ?_
  | refine o_sub ?_
  | refine o_cmp ?_
  | refine o_isN ?_
  | refine o_notN ?_
  | refine o_eqS rfl ?_
  | refine o_neS rfl ?_
  | (refine o_add_str ?_ ?_; rotate_left)
  | (refine o_add_lst ?_ ?_; rotate_left)
  | (refine o_mul ?_ ?_; rotate_left)
  | (refine o_mul_str ?_ ?_; rotate_left)
  | (refine o_I ?_ ?_; rotate_left)
  | refine o_inSign ?_
  | refine o_notInSign ?_
  | refine o_ix_tup rfl ?_
  | refine o_ix_lst rfl ?_
  | refine o_ix_fz rfl ?_
  | refine o_ix_own rfl rfl ?_
  | (refine o_ix_str' ?_ ?_ ?_; rotate_left 2)
  | (refine o_ix_lst' ?_ ?_; rotate_left)
  | (refine o_ix_tup' ?_ ?_; rotate_left)
  | (refine o_ix_fz' ?_ ?_; rotate_left)
  | (refine o_eq ?_ ?_ ?_; rotate_left 2)
  | (refine o_ne ?_ ?_ ?_; rotate_left 2))
local macro_rules | `(tactic| walk_at "os") => `(tactic| first
  | (refine sl_str' ?_ ?_; rotate_left)
  | refine sl_lst' ?_
  | refine sl_fz' ?_
  | (refine sl_tup' ?_ ?_; rotate_left))
local macro_rules | `(tactic| walk_at "oa") => `(tactic| first
  | refine o_len_lst ?_
  | refine o_len_tup ?_
  | refine o_len_fz ?_
  | (refine o_len_str ?_ ?_; rotate_left)
  | refine o_len_own rfl ?_
  | refine o_abs ?_
  | refine o_max2 ?_
  | refine o_min2 ?_
  | refine o_int_bl ?_
  | (refine o_int_str ?_ ?_ ?_; rotate_left 2)
  | (refine o_str ?_ ?_; rotate_left)
  | refine o_isi_int ?_
  | refine o_isi_bool ?_
  | refine o_isi_str ?_
  | refine o_isi_tuple ?_
  | refine o_isi_list ?_
  | refine o_isi_dict ?_)
local macro_rules | `(tactic| walk_at "ee") => `(tactic| first
  | ((with_reducible refine id_name _ ?_); walk_at "var")
  | ((with_reducible refine id_const ?_); first | refine e_int ?_ | refine e_str ?_ | refine e_non ?_ | refine e_bl ?_)
  | ((with_reducible refine id_subs ?_); first | refine e_slice ?_ | refine e_sub ix_seq ?_)
  | ((with_reducible refine id_bin .Add ?_); refine e_bin (op := .Add) op_addA ?_)
  | ((with_reducible refine id_bin .Sub ?_); refine e_bin (op := .Sub) op_sub ?_)
  | ((with_reducible refine id_bin .Mult ?_); refine e_bin (op := .Mult) op_mulA ?_)
  | ((with_reducible refine id_bin .FloorDiv ?_); refine e_bin (op := .FloorDiv) op_fdivW ?_)
  | ((with_reducible refine id_bin .Mod ?_); refine e_bin (op := .Mod) op_mod ?_)
  | ((with_reducible refine id_bin .Pow ?_); refine e_bin (op := .Pow) op_pow ?_)
  | ((with_reducible refine id_cmp .Lt ?_); refine e_cmp (op := .Lt) op_lt ?_)
  | ((with_reducible refine id_cmp .LtE ?_); refine e_cmp (op := .LtE) op_le ?_)
  | ((with_reducible refine id_cmp .Gt ?_); refine e_cmp (op := .Gt) op_gt ?_)
  | ((with_reducible refine id_cmp .GtE ?_); refine e_cmp (op := .GtE) op_ge ?_)
  | ((with_reducible refine id_cmp .Is ?_); refine e_cmp (op := .Is) op_isN ?_)
  | ((with_reducible refine id_cmp .IsNot ?_); refine e_cmp (op := .IsNot) op_notN ?_)
  | ((with_reducible refine id_cmp .Eq ?_); refine e_cmp (op := .Eq) (op_eqA (by first | exact Room.units (by assumption) | assumption)) ?_)
  | ((with_reducible refine id_cmp .NotEq ?_); refine e_cmp (op := .NotEq) (op_neA (by first | exact Room.units (by assumption) | assumption)) ?_)
  | ((with_reducible refine id_cmp .In ?_); refine e_cmp (op := .In) op_in_sign ?_)
  | ((with_reducible refine id_cmp .NotIn ?_); refine e_cmp (op := .NotIn) op_notIn_sign ?_)
  | ((with_reducible refine id_calln "len" ?_); refine e_len (by assumption) ?_)
  | ((with_reducible refine id_calln "abs" ?_); refine e_abs (by assumption) ?_)
  | ((with_reducible refine id_calln "int" ?_); refine e_intc (by assumption) ?_)
  | ((with_reducible refine id_calln "str" ?_); refine e_strc (by assumption) ?_)
  | ((with_reducible refine id_calln "max" ?_); refine e_max (by assumption) (by assumption) ?_)
  | ((with_reducible refine id_calln "min" ?_); refine e_min (by assumption) (by assumption) ?_)
  | ((with_reducible refine id_calln "isinstance" ?_); first | refine e_isi (T := "int") (n := "int") (by assumption) (by assumption) ?_ | refine e_isi (T := "bool") (n := "bool") (by assumption) (by assumption) ?_ | refine e_isi (T := "str") (n := "str") (by assumption) (by assumption) ?_ | refine e_isi (T := "tuple") (n := "tuple") (by assumption) (by assumption) ?_ | refine e_isi (T := "list") (n := "list") (by assumption) (by assumption) ?_ | refine e_isi (T := "dict") (n := "dict") (by assumption) (by assumption) ?_)
  | ((with_reducible refine id_callm "partition" ?_); refine e_part ?_)
  | ((with_reducible refine id_callm "split" ?_); refine e_split ?_)
  | ((with_reducible refine id_callm "join" ?_); refine e_join ?_)
  | ((with_reducible refine id_callm "append" ?_); refine e_append ?_)
  | ((with_reducible refine id_bool ?_); first | refine e_one ?_ | refine e_and ?_ | refine e_or ?_)
  | ((with_reducible refine id_un .Not ?_); refine e_not ?_)
  | ((with_reducible refine id_un .USub ?_); refine e_un (op := .USub) un_neg ?_)
  | refine e_tup ?_
  | refine e_fmt ?_
  | refine e_joined ?_
  | refine e_ifExp ?_)
local macro_rules | `(tactic| walk_at "et") => `(tactic| first
  | ((with_reducible refine id_tnot ?_); refine t_not ?_)
  | ((with_reducible refine id_tbool ?_); first | refine t_w (w_and ?_) | refine t_w (w_or ?_))
  | ((with_reducible refine id_tcmp .Lt ?_); refine t_cmp (op := .Lt) op_lt ?_)
  | ((with_reducible refine id_tcmp .LtE ?_); refine t_cmp (op := .LtE) op_le ?_)
  | ((with_reducible refine id_tcmp .Gt ?_); refine t_cmp (op := .Gt) op_gt ?_)
  | ((with_reducible refine id_tcmp .GtE ?_); refine t_cmp (op := .GtE) op_ge ?_)
  | ((with_reducible refine id_tcmp .Is ?_); refine t_cmp (op := .Is) op_isN ?_)
  | ((with_reducible refine id_tcmp .IsNot ?_); refine t_cmp (op := .IsNot) op_notN ?_)
  | ((with_reducible refine id_tcmp .Eq ?_); refine t_cmp (op := .Eq) (op_eqA (by first | exact Room.units (by assumption) | assumption)) ?_)
  | ((with_reducible refine id_tcmp .NotEq ?_); refine t_cmp (op := .NotEq) (op_neA (by first | exact Room.units (by assumption) | assumption)) ?_)
  | ((with_reducible refine id_tcmp .In ?_); refine t_cmp (op := .In) op_in_sign ?_)
  | ((with_reducible refine id_tcmp .NotIn ?_); refine t_cmp (op := .NotIn) op_notIn_sign ?_)
  | ((with_reducible refine id_tcmp2 ?_); first | refine t_chain (op := .LtE) (op' := .LtE) op_le op_le ?_ | refine t_chain (op := .LtE) (op' := .Lt) op_le op_lt ?_ | refine t_chain (op := .Lt) (op' := .Lt) op_lt op_lt ?_)
  | refine t_val ?_)
local macro_rules | `(tactic| walk_at "ew") => `(tactic| first
  | refine w_and1 ?_
  | refine w_or1 ?_
  | refine w_and ?_
  | refine w_or ?_)
local macro_rules | `(tactic| walk_at "es") => `(tactic| first
  | ((with_reducible refine id_sret ?_); refine s_ret ?_)
  | ((with_reducible refine id_sif ?_); refine s_if ?_)
  | ((with_reducible refine id_sset _ ?_); walk_at "set")
  | ((with_reducible refine id_sasg ?_); refine s_asg ?_)
  | ((with_reducible refine id_sexpr ?_); refine s_expr ?_)
  | refine s_retN ?_
  | refine s_pass ?_)
local macro_rules | `(tactic| walk_at "q1") => `(tactic| first
  | ((with_reducible refine id_e ?_); walk_at "ee")
  | ((with_reducible refine id_o2 ?_); walk_at "o2")
  | ((with_reducible refine id_o1 ?_); refine o_neg (k := fun i => -i) rfl ?_)
  | ((with_reducible refine id_b ?_); first | refine b_cons ?_ | refine b_nil ?_)
  | ((with_reducible refine id_s ?_); walk_at "es")
  | ((with_reducible refine id_t ?_); walk_at "et")
  | ((with_reducible refine id_w ?_); walk_at "ew")
  | ((with_reducible refine id_a ?_); first | refine a_cons ?_ | refine a_nil ?_)
  | ((with_reducible refine id_oa ?_); walk_at "oa")
  | ((with_reducible refine id_os ?_); walk_at "os")
  | ((with_reducible refine id_p ?_); first | refine p_none ?_ | refine p_some ?_)
  | ((with_reducible refine id_gs ?_); first | refine gs_nil ?_ | walk_at "gs1")
  | ((with_reducible refine id_g ?_); first | walk_at "g1" | refine g_tup (by assumption) ?_ | refine g_unl (by assumption) ?_)
  | (with_reducible refine iteT ?_)
  | (with_reducible refine iteF ?_)
  | refine j_cons ?_
  | refine j_nil ?_
  | (refine o_fmt_int ?_ ?_; rotate_left)
  | (refine o_fmt_str ?_ ?_; rotate_left)
  | refine o_T rfl (Nat.le_of_ble_eq_true rfl) ?_
  | (refine o_part rfl ?_ ?_; rotate_left)
  | (refine o_split rfl ?_ ?_; rotate_left)
  | (refine o_j ?_ ?_; rotate_left)
  | (refine o_app (by assumption) ?_ ?_; rotate_left)
  | refine ⟨_, rfl, ?_⟩
  | refine ⟨⟨_, by assumption⟩, ?_⟩)
local macro_rules | `(tactic| walk_at "q") => `(tactic| repeat walk_at "q1")
local macro_rules | `(tactic| walk_at "qs") => `(tactic| repeat' (first | walk_at "q1" | refine ite2 (fun _ => ?_) (fun _ => ?_)))
local macro_rules | `(tactic| walk_at "len") => `(tactic| ((try simp only [Str.empty_append, Str.length_append]); (try (have : ("/" : Str).length = 1 := rfl)); omega))
section
variable {P : Program} {w : World} {K : PySem.W.Frag} {mg : Str → Option Value} {base : Heap} {CN CE : Addr}
structure FracB (t d : Int) : Prop where
  pos : 0 < d
  top : Lt2 300 t
  bot : Lt2 300 d
theorem ediv_gcd_pos {a b : Int} (h : 0 < b) : 0 < b / ((Int.gcd a b : Nat) : Int) := by
  have h1 := gcd_pos (a := a) h
  have h2 := gcd_le (a := a) h
  have : 1 ≤ b / ((Int.gcd a b : Nat) : Int) := Int.le_ediv_of_mul_le h1 (by omega)
  omega
theorem lt2_of {n : Nat} {i : Int} (h : i.natAbs < 2 ^ n) : Lt2 n i := h
theorem lt2_sub {n : Nat} {i j : Int} (h : Lt2 n i) (k : Lt2 n j) : Lt2 (n + 1) (i - j) := by
  have h' : i.natAbs < 2 ^ n := h
  have k' : j.natAbs < 2 ^ n := k
  show (i - j).natAbs < 2 ^ (n + 1)
  have e : 2 ^ (n + 1) = 2 * 2 ^ n := by rw [Nat.pow_succ]; omega
  omega
def T60 : Int := 1000000000000000000000000000000000000000000000000000000000000
theorem lt_T60 {a : Int} (h0 : 0 ≤ a) (h : a ≤ T60) : Lt2 299 a := by
  unfold T60 at h
  exact Nat.lt_of_le_of_lt (show a.natAbs ≤ 1000000000000000000000000000000000000000000000000000000000000 by omega) (by decide)
theorem lt_T60d {a j : Int} (h0 : 0 ≤ a) (h : a ≤ T60) : Lt2 299 (a / j) := (lt_T60 h0 h).div
theorem frac_ok {a b g : Int} (a0 : 0 ≤ a) (a1 : a < T60) (b0 : 0 < b) (b1 : b ≤ T60) (g0 : 0 ≤ g) (g1 : g < 2) :
    Lt2 299 (a / ((Int.gcd a b : Nat) : Int)) ∧ FracB (a / ((Int.gcd a b : Nat) : Int) - 2 * g * (a / ((Int.gcd a b : Nat) : Int))) (b / ((Int.gcd a b : Nat) : Int)) := by
  have ha := (lt_T60 a0 (Int.le_of_lt a1)).div (j := ((Int.gcd a b : Nat) : Int))
  have hb := (lt_T60 (Int.le_of_lt b0) b1).div (j := ((Int.gcd a b : Nat) : Int))
  refine ⟨ha, ediv_gcd_pos b0, ?_, hb.mono (by decide)⟩
  generalize a / ((Int.gcd a b : Nat) : Int) = x at ha
  have h' : x.natAbs < 2 ^ 299 := ha
  show (x - 2 * g * x).natAbs < 2 ^ 300
  have e : 2 ^ 300 = 2 * 2 ^ 299 := by decide
  have : g = 0 ∨ g = 1 := by omega
  rcases this with rfl | rfl
  · rw [Int.mul_zero, Int.zero_mul, Int.sub_zero]; omega
  · rw [Int.mul_one]; omega
def sp__law_fraction : FSp := fun as m Pq _ => ∃ s g w a b : Int, as = [.dat (.list [.int s, .int g, .int w]), .dat (.int a), .dat (.int b)] ∧ 0 ≤ g ∧ g < 2 ∧ 0 ≤ a ∧ a < T60 ∧ 0 ≤ b ∧ b < T60 ∧ ∀ t d : Int, FracB t d → Pq (.dat (fr t d)) m
local macro_rules | `(tactic| walk_at "var") => `(tactic| first | ((with_reducible refine id_name "digits" ?_); refine e_var (i := 0) rfl rfl ?_) | ((with_reducible refine id_name "above" ?_); refine e_var (i := 1) rfl rfl ?_) | ((with_reducible refine id_name "below" ?_); refine e_var (i := 2) rfl rfl ?_) | ((with_reducible refine id_name "small" ?_); refine e_var (i := 3) rfl rfl ?_) | ((with_reducible refine id_name "sign" ?_); refine e_var (i := 4) rfl rfl ?_) | ((with_reducible refine id_name "whole" ?_); refine e_var (i := 5) rfl rfl ?_) | ((with_reducible refine id_name "found" ?_); refine e_var (i := 6) rfl rfl ?_))
local macro_rules | `(tactic| walk_at "set") => `(tactic| first | ((with_reducible refine id_sset "digits" ?_); refine s_set (i := 0) (by assumption) rfl ?_) | ((with_reducible refine id_sset "above" ?_); refine s_set (i := 1) (by assumption) rfl ?_) | ((with_reducible refine id_sset "below" ?_); refine s_set (i := 2) (by assumption) rfl ?_) | ((with_reducible refine id_sset "small" ?_); refine s_set (i := 3) (by assumption) rfl ?_) | ((with_reducible refine id_sset "sign" ?_); refine s_set (i := 4) (by assumption) rfl ?_) | ((with_reducible refine id_sset "whole" ?_); refine s_set (i := 5) (by assumption) rfl ?_) | ((with_reducible refine id_sset "found" ?_); refine s_set (i := 6) (by assumption) rfl ?_))
local macro_rules | `(tactic| walk_at "g1") => `(tactic| first | ((with_reducible refine id_gname "digits" ?_); refine g_name (i := 0) (by assumption) rfl ?_) | ((with_reducible refine id_gname "above" ?_); refine g_name (i := 1) (by assumption) rfl ?_) | ((with_reducible refine id_gname "below" ?_); refine g_name (i := 2) (by assumption) rfl ?_) | ((with_reducible refine id_gname "small" ?_); refine g_name (i := 3) (by assumption) rfl ?_) | ((with_reducible refine id_gname "sign" ?_); refine g_name (i := 4) (by assumption) rfl ?_) | ((with_reducible refine id_gname "whole" ?_); refine g_name (i := 5) (by assumption) rfl ?_) | ((with_reducible refine id_gname "found" ?_); refine g_name (i := 6) (by assumption) rfl ?_))
local macro_rules | `(tactic| walk_at "gs1") => `(tactic| first | ((with_reducible refine id_gsname "digits" ?_); refine gs_name (i := 0) (by assumption) rfl ?_) | ((with_reducible refine id_gsname "above" ?_); refine gs_name (i := 1) (by assumption) rfl ?_) | ((with_reducible refine id_gsname "below" ?_); refine gs_name (i := 2) (by assumption) rfl ?_) | ((with_reducible refine id_gsname "small" ?_); refine gs_name (i := 3) (by assumption) rfl ?_) | ((with_reducible refine id_gsname "sign" ?_); refine gs_name (i := 4) (by assumption) rfl ?_) | ((with_reducible refine id_gsname "whole" ?_); refine gs_name (i := 5) (by assumption) rfl ?_) | ((with_reducible refine id_gsname "found" ?_); refine gs_name (i := 6) (by assumption) rfl ?_))
theorem ok__law_fraction {f : Addr} {fd : FuncData} (Fl : Df P w K mg base 2 "_law_lowest" ["top", "bottom"] sp_lowest) (D : Dn K mg "_law_fraction" s__law_fraction ["digits", "above", "below"] f fd) : Df P w K mg base 3 "_law_fraction" ["digits", "above", "below"] sp__law_fraction := by
  refine Df.mk' D sc__law_fraction (fun as m P EP ⟨_, _, _, _, _, e, _⟩ => by rw [e]; rfl) ?_
  rintro cdv A outer s H E hr nd cm po as m Pq EP ⟨sm, sg, wh, a, b, rfl, g0, g1, a0, a1, b0, b1, hP⟩
  have a31 : 0 ≤ a % 31 ∧ a % 31 < T60 := by unfold T60; omega
  have b12 : 0 < 1 + b % 12 ∧ 1 + b % 12 ≤ T60 := by unfold T60; omega
  have b1' : 0 < 1 + b ∧ 1 + b ≤ T60 := by omega
  have b0' : 0 < (1 : Int) + 0 ∧ (1 : Int) + 0 ≤ T60 := by decide
  walk_at "qs"
  all_goals first
    | decide
    | (refine e_call Fl hr ?_
       walk_at "q"
       refine ⟨_, _, rfl, ?_, ?_, ?_⟩
       · first | exact b12.1 | exact b1'.1 | exact b0'.1
       · first | exact (lt_T60 (Int.le_of_lt b12.1) b12.2).mono (by decide) | exact (lt_T60 (Int.le_of_lt b1'.1) b1'.2).mono (by decide) | exact (lt_T60 (Int.le_of_lt b0'.1) b0'.2).mono (by decide)
       walk_at "q"
       all_goals first
         | exact mul64 (by decide) (by omega)
         | (first | exact hP _ _ (frac_ok a31.1 a31.2 b12.1 b12.2 g0 g1).2 | exact hP _ _ (frac_ok a31.1 a31.2 b0'.1 b0'.2 g0 g1).2 | exact hP _ _ (frac_ok a0 a1 b1'.1 b1'.2 g0 g1).2 | exact hP _ _ (frac_ok a0 a1 b0'.1 b0'.2 g0 g1).2)
         | exact mul_ok (n := 64) (show (2 * sg).natAbs < 2 ^ 64 by omega) (lt_T60d a31.1 (Int.le_of_lt a31.2)) (by decide) (by decide) (by decide)
         | exact mul_ok (n := 64) (show (2 * sg).natAbs < 2 ^ 64 by omega) (lt_T60d a0 (Int.le_of_lt a1)) (by decide) (by decide) (by decide))
end
end KK
set_option maxHeartbeats 4000000
namespace KK
open PySem PySem.Spec PyProof.Rows L2 QQ
local macro_rules | `(tactic| walk_at "o2") => `(tactic| first
  | refine o_add_int ?_
  | refine o_sub ?_
  | refine o_cmp ?_
  | refine o_isN ?_
  | refine o_notN ?_
  | refine o_eqS rfl ?_
  | refine o_neS rfl ?_
  | (refine o_add_str ?_ ?_; rotate_left)
  | (refine o_add_lst ?_ ?_; rotate_left)
  | (refine o_mul ?_ ?_; rotate_left)
  | (refine o_mul_str ?_ ?_; rotate_left)
  | (refine o_I ?_ ?_; rotate_left)
  | refine o_inSign ?_
  | refine o_notInSign ?_
  | refine o_ix_tup rfl ?_
  | refine o_ix_lst rfl ?_
  | refine o_ix_fz rfl ?_
  | refine o_ix_own rfl rfl ?_
  | (refine o_ix_str' ?_ ?_ ?_; rotate_left 2)
  | (refine o_ix_lst' ?_ ?_; rotate_left)
  | (refine o_ix_tup' ?_ ?_; rotate_left)
  | (refine o_ix_fz' ?_ ?_; rotate_left)
  | (refine o_eq ?_ ?_ ?_; rotate_left 2)
  | (refine o_ne ?_ ?_ ?_; rotate_left 2))
local macro_rules | `(tactic| walk_at "os") => `(tactic| first
  | (refine sl_str' ?_ ?_; rotate_left)
  | refine sl_lst' ?_
  | refine sl_fz' ?_
  | (refine sl_tup' ?_ ?_; rotate_left))
local macro_rules | `(tactic| walk_at "oa") => `(tactic| first
  | refine o_len_lst ?_
  | refine o_len_tup ?_
  | refine o_len_fz ?_
  | (refine o_len_str ?_ ?_; rotate_left)
  | refine o_len_own rfl ?_
  | refine o_abs ?_
  | refine o_max2 ?_
  | refine o_min2 ?_
  | refine o_int_bl ?_
  | (refine o_int_str ?_ ?_ ?_; rotate_left 2)
  | (refine o_str ?_ ?_; rotate_left)
  | refine o_isi_int ?_
  | refine o_isi_bool ?_
  | refine o_isi_str ?_
  | refine o_isi_tuple ?_
  | refine o_isi_list ?_
  | refine o_isi_dict ?_)
local macro_rules | `(tactic| walk_at "ee") => `(tactic| first
  | ((with_reducible refine id_name _ ?_); walk_at "var")
  | ((with_reducible refine id_const ?_); first | refine e_int ?_ | refine e_str ?_ | refine e_non ?_ | refine e_bl ?_)
  | ((with_reducible refine id_subs ?_); first | refine e_slice ?_ | refine e_sub ix_seq ?_)
  | ((with_reducible refine id_bin .Add ?_); refine e_bin (op := .Add) op_addA ?_)
  | ((with_reducible refine id_bin .Sub ?_); refine e_bin (op := .Sub) op_sub ?_)
  | ((with_reducible refine id_bin .Mult ?_); refine e_bin (op := .Mult) op_mulA ?_)
  | ((with_reducible refine id_bin .FloorDiv ?_); refine e_bin (op := .FloorDiv) op_fdivW ?_)
  | ((with_reducible refine id_bin .Mod ?_); refine e_bin (op := .Mod) op_mod ?_)
  | ((with_reducible refine id_bin .Pow ?_); refine e_bin (op := .Pow) op_pow ?_)
  | ((with_reducible refine id_cmp .Lt ?_); refine e_cmp (op := .Lt) op_lt ?_)
  | ((with_reducible refine id_cmp .LtE ?_); refine e_cmp (op := .LtE) op_le ?_)
  | ((with_reducible refine id_cmp .Gt ?_); refine e_cmp (op := .Gt) op_gt ?_)
  | ((with_reducible refine id_cmp .GtE ?_); refine e_cmp (op := .GtE) op_ge ?_)
  | ((with_reducible refine id_cmp .Is ?_); refine e_cmp (op := .Is) op_isN ?_)
  | ((with_reducible refine id_cmp .IsNot ?_); refine e_cmp (op := .IsNot) op_notN ?_)
  | ((with_reducible refine id_cmp .Eq ?_); refine e_cmp (op := .Eq) (op_eqA (by first | exact Room.units (by assumption) | assumption)) ?_)
  | ((with_reducible refine id_cmp .NotEq ?_); refine e_cmp (op := .NotEq) (op_neA (by first | exact Room.units (by assumption) | assumption)) ?_)
  | ((with_reducible refine id_cmp .In ?_); refine e_cmp (op := .In) op_in_sign ?_)
  | ((with_reducible refine id_cmp .NotIn ?_); refine e_cmp (op := .NotIn) op_notIn_sign ?_)
  | ((with_reducible refine id_calln "len" ?_); refine e_len (by assumption) ?_)
  | ((with_reducible refine id_calln "abs" ?_); refine e_abs (by assumption) ?_)
  | ((with_reducible refine id_calln "int" ?_); refine e_intc (by assumption) ?_)
  | ((with_reducible refine id_calln "str" ?_); refine e_strc (by assumption) ?_)
  | ((with_reducible refine id_calln "max" ?_); refine e_max (by assumption) (by assumption) ?_)
  | ((with_reducible refine id_calln "min" ?_); refine e_min (by assumption) (by assumption) ?_)
  | ((with_reducible refine id_calln "isinstance" ?_); first | refine e_isi (T := "int") (n := "int") (by assumption) (by assumption) ?_ | refine e_isi (T := "bool") (n := "bool") (by assumption) (by assumption) ?_ | refine e_isi (T := "str") (n := "str") (by assumption) (by assumption) ?_ | refine e_isi (T := "tuple") (n := "tuple") (by assumption) (by assumption) ?_ | refine e_isi (T := "list") (n := "list") (by assumption) (by assumption) ?_ | refine e_isi (T := "dict") (n := "dict") (by assumption) (by assumption) ?_)
  | ((with_reducible refine id_callm "partition" ?_); refine e_part ?_)
  | ((with_reducible refine id_callm "split" ?_); refine e_split ?_)
  | ((with_reducible refine id_callm "join" ?_); refine e_join ?_)
  | ((with_reducible refine id_callm "append" ?_); refine e_append ?_)
  | ((with_reducible refine id_bool ?_); first | refine e_one ?_ | refine e_and ?_ | refine e_or ?_)
  | ((with_reducible refine id_un .Not ?_); refine e_not ?_)
  | ((with_reducible refine id_un .USub ?_); refine e_un (op := .USub) un_neg ?_)
  | refine e_tup ?_
  | refine e_fmt ?_
  | refine e_joined ?_
  | refine e_ifExp ?_)
local macro_rules | `(tactic| walk_at "et") => `(tactic| first
  | ((with_reducible refine id_tnot ?_); refine t_not ?_)
  | ((with_reducible refine id_tbool ?_); first | refine t_w (w_and ?_) | refine t_w (w_or ?_))
  | ((with_reducible refine id_tcmp .Lt ?_); refine t_cmp (op := .Lt) op_lt ?_)
  | ((with_reducible refine id_tcmp .LtE ?_); refine t_cmp (op := .LtE) op_le ?_)
  | ((with_reducible refine id_tcmp .Gt ?_); refine t_cmp (op := .Gt) op_gt ?_)
  | ((with_reducible refine id_tcmp .GtE ?_); refine t_cmp (op := .GtE) op_ge ?_)
  | ((with_reducible refine id_tcmp .Is ?_); refine t_cmp (op := .Is) op_isN ?_)
  | ((with_reducible refine id_tcmp .IsNot ?_); refine t_cmp (op := .IsNot) op_notN ?_)
  | ((with_reducible refine id_tcmp .Eq ?_); refine t_cmp (op := .Eq) (op_eqA (by first | exact Room.units (by assumption) | assumption)) ?_)
  | ((with_reducible refine id_tcmp .NotEq ?_); refine t_cmp (op := .NotEq) (op_neA (by first | exact Room.units (by assumption) | assumption)) ?_)
  | ((with_reducible refine id_tcmp .In ?_); refine t_cmp (op := .In) op_in_sign ?_)
  | ((with_reducible refine id_tcmp .NotIn ?_); refine t_cmp (op := .NotIn) op_notIn_sign ?_)
  | ((with_reducible refine id_tcmp2 ?_); first | refine t_chain (op := .LtE) (op' := .LtE) op_le op_le ?_ | refine t_chain (op := .LtE) (op' := .Lt) op_le op_lt ?_ | refine t_chain (op := .Lt) (op' := .Lt) op_lt op_lt ?_)
  | refine t_val ?_)
local macro_rules | `(tactic| walk_at "ew") => `(tactic| first
  | refine w_and1 ?_
  | refine w_or1 ?_
  | refine w_and ?_
  | refine w_or ?_)
local macro_rules | `(tactic| walk_at "es") => `(tactic| first
  | ((with_reducible refine id_sret ?_); refine s_ret ?_)
  | ((with_reducible refine id_sif ?_); refine s_if ?_)
  | ((with_reducible refine id_sset _ ?_); walk_at "set")
  | ((with_reducible refine id_sasg ?_); refine s_asg ?_)
  | ((with_reducible refine id_sexpr ?_); refine s_expr ?_)
  | refine s_retN ?_
  | refine s_pass ?_)
local macro_rules | `(tactic| walk_at "q1") => `(tactic| first
  | ((with_reducible refine id_e ?_); walk_at "ee")
  | ((with_reducible refine id_o2 ?_); walk_at "o2")
  | ((with_reducible refine id_o1 ?_); refine o_neg (k := fun i => -i) rfl ?_)
  | ((with_reducible refine id_b ?_); first | refine b_cons ?_ | refine b_nil ?_)
  | ((with_reducible refine id_s ?_); walk_at "es")
  | ((with_reducible refine id_t ?_); walk_at "et")
  | ((with_reducible refine id_w ?_); walk_at "ew")
  | ((with_reducible refine id_a ?_); first | refine a_cons ?_ | refine a_nil ?_)
  | ((with_reducible refine id_oa ?_); walk_at "oa")
  | ((with_reducible refine id_os ?_); walk_at "os")
  | ((with_reducible refine id_p ?_); first | refine p_none ?_ | refine p_some ?_)
  | ((with_reducible refine id_gs ?_); first | refine gs_nil ?_ | walk_at "gs1")
  | ((with_reducible refine id_g ?_); first | walk_at "g1" | refine g_tup (by assumption) ?_ | refine g_unl (by assumption) ?_)
  | (with_reducible refine iteT ?_)
  | (with_reducible refine iteF ?_)
  | refine j_cons ?_
  | refine j_nil ?_
  | (refine o_fmt_int ?_ ?_; rotate_left)
  | (refine o_fmt_str ?_ ?_; rotate_left)
  | refine o_T rfl (Nat.le_of_ble_eq_true rfl) ?_
  | (refine o_part rfl ?_ ?_; rotate_left)
  | (refine o_split rfl ?_ ?_; rotate_left)
  | (refine o_j ?_ ?_; rotate_left)
  | (refine o_app (by assumption) ?_ ?_; rotate_left)
  | refine ⟨_, rfl, ?_⟩
  | refine ⟨⟨_, by assumption⟩, ?_⟩)
local macro_rules | `(tactic| walk_at "q") => `(tactic| repeat walk_at "q1")
local macro_rules | `(tactic| walk_at "qs") => `(tactic| repeat' (first | walk_at "q1" | refine ite2 (fun _ => ?_) (fun _ => ?_)))
local macro_rules | `(tactic| walk_at "len") => `(tactic| ((try simp only [Str.empty_append, Str.length_append]); (try (have : ("/" : Str).length = 1 := rfl)); omega))
section
variable {P : Program} {w : World} {K : PySem.W.Frag} {mg : Str → Option Value} {base : Heap} {CN CE : Addr}
def sp__law_bent : FSp := fun as m Pq _ => ∃ (z : Str) (wy kd a : Int), as = [.dat (.str z), .dat (.int wy), .dat (.int kd), .dat (.int a)] ∧ z.length ≤ 5000 ∧ okS z ∧ 0 ≤ kd ∧ kd < 20 ∧ ∀ z' : Str, z'.length ≤ 20000 → okS z' → Pq (.dat (.str z')) m
theorem okS_app {a b : Str} (h : okS a) (k : okS b) : okS (a ++ b) := fun c hc => by
  have e : (a ++ b).cps.toList = a.cps.toList ++ b.cps.toList := Array.toList_append
  rw [e, List.mem_append] at hc
  rcases hc with hc | hc
  · exact h c hc
  · exact k c hc
theorem appL {a b : Str} {i j : Nat} (h : a.length ≤ i) (k : b.length ≤ j) : (a ++ b).length ≤ i + j := by rw [Str.length_append]; omega
local macro_rules | `(tactic| walk_at "var") => `(tactic| first | ((with_reducible refine id_name "text" ?_); refine e_var (i := 0) rfl rfl ?_) | ((with_reducible refine id_name "way" ?_); refine e_var (i := 1) rfl rfl ?_) | ((with_reducible refine id_name "kind" ?_); refine e_var (i := 2) rfl rfl ?_) | ((with_reducible refine id_name "at" ?_); refine e_var (i := 3) rfl rfl ?_) | ((with_reducible refine id_name "sign" ?_); refine e_var (i := 4) rfl rfl ?_))
local macro_rules | `(tactic| walk_at "set") => `(tactic| first | ((with_reducible refine id_sset "text" ?_); refine s_set (i := 0) (by assumption) rfl ?_) | ((with_reducible refine id_sset "way" ?_); refine s_set (i := 1) (by assumption) rfl ?_) | ((with_reducible refine id_sset "kind" ?_); refine s_set (i := 2) (by assumption) rfl ?_) | ((with_reducible refine id_sset "at" ?_); refine s_set (i := 3) (by assumption) rfl ?_) | ((with_reducible refine id_sset "sign" ?_); refine s_set (i := 4) (by assumption) rfl ?_))
local macro_rules | `(tactic| walk_at "g1") => `(tactic| first | ((with_reducible refine id_gname "text" ?_); refine g_name (i := 0) (by assumption) rfl ?_) | ((with_reducible refine id_gname "way" ?_); refine g_name (i := 1) (by assumption) rfl ?_) | ((with_reducible refine id_gname "kind" ?_); refine g_name (i := 2) (by assumption) rfl ?_) | ((with_reducible refine id_gname "at" ?_); refine g_name (i := 3) (by assumption) rfl ?_) | ((with_reducible refine id_gname "sign" ?_); refine g_name (i := 4) (by assumption) rfl ?_))
local macro_rules | `(tactic| walk_at "gs1") => `(tactic| first | ((with_reducible refine id_gsname "text" ?_); refine gs_name (i := 0) (by assumption) rfl ?_) | ((with_reducible refine id_gsname "way" ?_); refine gs_name (i := 1) (by assumption) rfl ?_) | ((with_reducible refine id_gsname "kind" ?_); refine gs_name (i := 2) (by assumption) rfl ?_) | ((with_reducible refine id_gsname "at" ?_); refine gs_name (i := 3) (by assumption) rfl ?_) | ((with_reducible refine id_gsname "sign" ?_); refine gs_name (i := 4) (by assumption) rfl ?_))
theorem ok__law_bent {f : Addr} {fd : FuncData} (B : Bl mg) (D : Dn K mg "_law_bent" s__law_bent ["text", "way", "kind", "at"] f fd) : Df P w K mg base 1 "_law_bent" ["text", "way", "kind", "at"] sp__law_bent := by
  refine Df.mk' D sc__law_bent (fun as m P EP ⟨_, _, _, _, e, _⟩ => by rw [e]; rfl) ?_
  rintro cdv A outer s H E hr nd cm po as m Pq EP ⟨z, wy, kd, a, rfl, hz, ho, k0, k1, hP⟩
  have z1 := B.len
  walk_at "q"
  rotate_left
  · decide +kernel
  · exact ⟨k0, Int.lt_of_lt_of_le k1 (by decide +kernel)⟩
  · omega
  · omega
  have os : okS ⟨#[("0123456789-/+. \n\ta_E" : Str).cps.toList.getD kd.toNat 0]⟩ := fun c hc => by
    have e : c = ("0123456789-/+. \n\ta_E" : Str).cps.toList.getD kd.toNat 0 := by simpa using hc
    have ek : kd.toNat < 20 := by omega
    rw [e]
    have al : ∀ i < 20, ("0123456789-/+. \n\ta_E" : Str).cps.toList.getD i 0 < 0x110000 := by decide +kernel
    exact al _ ek
  have ls : (⟨#[("0123456789-/+. \n\ta_E" : Str).cps.toList.getD kd.toNat 0]⟩ : Str).length ≤ 1 := Nat.le_refl 1
  generalize (⟨#[("0123456789-/+. \n\ta_E" : Str).cps.toList.getD kd.toNat 0]⟩ : Str) = sg at *
  have hz' : z.length ≤ 1000000 := by omega
  walk_at "qs"
  all_goals first
    | exact hz'
    | exact Nat.le_trans (Nat.add_le_add (appL (cut_sub z _ _).len ls) (cut_sub z _ _).len) (by omega)
    | exact Nat.le_trans (Nat.add_le_add (cut_sub z _ _).len ls) (by omega)
    | exact Nat.le_trans (Nat.add_le_add (cut_sub z _ _).len (cut_sub z _ _).len) (by omega)
    | exact hP _ (Nat.le_trans (appL (appL (cut_sub z _ _).len ls) (cut_sub z _ _).len) (by omega)) (okS_app (okS_app ((cut_sub z _ _).ok ho) os) ((cut_sub z _ _).ok ho))
    | exact hP _ (Nat.le_trans (appL (cut_sub z _ _).len (cut_sub z _ _).len) (by omega)) (okS_app ((cut_sub z _ _).ok ho) ((cut_sub z _ _).ok ho))
theorem fold_app (a : Array Nat) : ∀ (k : Nat) (acc : Array Nat), ((List.replicate k a).foldl (· ++ ·) acc).size = acc.size + k * a.size ∧ ∀ c ∈ ((List.replicate k a).foldl (· ++ ·) acc).toList, c ∈ acc.toList ∨ c ∈ a.toList
  | 0, acc => ⟨by simp, fun c hc => .inl hc⟩
  | k + 1, acc => by
    have ih := fold_app a k (acc ++ a)
    rw [List.replicate_succ, List.foldl_cons]
    refine ⟨by rw [ih.1, Array.size_append, Nat.add_mul]; omega, fun c hc => ?_⟩
    rcases ih.2 c hc with h | h
    · rw [Array.toList_append, List.mem_append] at h
      exact h
    · exact .inr h
theorem mul_sub (x : Str) (k : Nat) : (Txt.mul x k).length ≤ x.length * k + x.length ∧ ∀ c ∈ (Txt.mul x k).cps.toList, c ∈ x.cps.toList := by
  unfold Txt.mul
  split
  · exact ⟨Nat.zero_le _, fun c hc => by simp [Str.empty] at hc⟩
  · split
    · exact ⟨by omega, fun c hc => hc⟩
    · have h := fold_app x.cps k #[]
      rw [Int.toNat_natCast]
      refine ⟨?_, fun c hc => ?_⟩
      · show ((List.replicate k x.cps).foldl (· ++ ·) #[]).size ≤ _
        rw [h.1]
        show 0 + k * x.cps.size ≤ x.cps.size * k + _
        rw [Nat.mul_comm]
        omega
      · rcases h.2 c hc with h | h
        · simp at h
        · exact h
theorem tell_mul {x : Str} {k : Nat} (h : okS x) (hx : x.length ≤ 10) (hk : k ≤ 5000) : (Txt.mul x k).length ≤ 90000 ∧ okS (Txt.mul x k) := by
  have m := mul_sub x k
  have : x.length * k ≤ 10 * 5000 := Nat.mul_le_mul hx hk
  exact ⟨by omega, fun c hc => h c (m.2 c hc)⟩
def tellB : PyData → Bool
  | .str z => decide (z.length ≤ 100000) && z.cps.toList.all fun c => decide (c < 0x110000)
  | _ => true
theorem tellB_ok {d : PyData} (h : tellB d = true) : tellD d := by
  rintro z rfl
  have h' : (decide (z.length ≤ 100000) && z.cps.toList.all fun c => decide (c < 0x110000)) = true := h
  rw [Bool.and_eq_true, List.all_eq_true] at h'
  exact ⟨of_decide_eq_true h'.1, fun c hc => of_decide_eq_true (h'.2 c hc)⟩
theorem tellB_all {ds : List PyData} (h : ds.all tellB = true) : ∀ d ∈ ds, tellD d := fun d hd => tellB_ok (List.all_eq_true.mp h d hd)
theorem getD_mem {ds : List PyData} {k : Nat} {d : PyData} (h : k < ds.length) : ds.getD k d ∈ ds := by
  rw [List.getD_eq_getElem?_getD, List.getElem?_eq_getElem h]
  exact List.getElem_mem h
theorem tell_app {A D : List PyData} (hA : A.all tellB = true) (hD : ∀ d ∈ D, tellD d) : ∀ d ∈ A ++ D, tellD d := fun d hd => by
  rcases List.mem_append.mp hd with h | h
  · exact tellB_all hA d h
  · exact hD d h
theorem tell_two {x y : Str} (h1 : x.length ≤ 100000) (h2 : okS x) (h3 : y.length ≤ 100000) (h4 : okS y) : ∀ d ∈ [PyData.str x, PyData.str y], tellD d := fun d hd => by
  rcases List.mem_cons.mp hd with rfl | hd
  · rintro z h
    cases h
    exact ⟨h1, h2⟩
  · rcases List.mem_cons.mp hd with rfl | hd
    · rintro z h
      cases h
      exact ⟨h3, h4⟩
    · exact absurd hd List.not_mem_nil
def sp__law_other : FSp := fun as m Pq _ => ∃ k : Int, as = [.dat (.int k)] ∧ 0 ≤ k ∧ k < 26 ∧ ∀ d, tellD d → Pq (.dat d) m
local macro_rules | `(tactic| walk_at "var") => `(tactic| first | ((with_reducible refine id_name "kind" ?_); refine e_var (i := 0) rfl rfl ?_) | ((with_reducible refine id_name "some" ?_); refine e_var (i := 1) rfl rfl ?_))
local macro_rules | `(tactic| walk_at "set") => `(tactic| first | ((with_reducible refine id_sset "kind" ?_); refine s_set (i := 0) (by assumption) rfl ?_) | ((with_reducible refine id_sset "some" ?_); refine s_set (i := 1) (by assumption) rfl ?_))
local macro_rules | `(tactic| walk_at "g1") => `(tactic| first | ((with_reducible refine id_gname "kind" ?_); refine g_name (i := 0) (by assumption) rfl ?_) | ((with_reducible refine id_gname "some" ?_); refine g_name (i := 1) (by assumption) rfl ?_))
local macro_rules | `(tactic| walk_at "gs1") => `(tactic| first | ((with_reducible refine id_gsname "kind" ?_); refine gs_name (i := 0) (by assumption) rfl ?_) | ((with_reducible refine id_gsname "some" ?_); refine gs_name (i := 1) (by assumption) rfl ?_))
theorem ok__law_other {f : Addr} {fd : FuncData} (D : Dn K mg "_law_other" s__law_other ["kind"] f fd) : Df P w K mg base 1 "_law_other" ["kind"] sp__law_other := by
  refine Df.mk' D sc__law_other (fun as m P EP ⟨_, e, _⟩ => by rw [e]; rfl) ?_
  rintro cdv A outer s H E hr nd cm po as m Pq EP ⟨k, rfl, k0, k1, hP⟩
  walk_at "q"
  refine e_lst ?_
  walk_at "q"
  refine e_lst ?_
  walk_at "q"
  rotate_left
  · decide
  refine e_lst ?_
  walk_at "q"
  refine e_lst ?_
  walk_at "q"
  rotate_left
  · decide
  have m1 : MulOk ("1" : Str) 4400 := by unfold MulOk; decide +kernel
  have m3 : MulOk ("3" : Str) 4400 := by unfold MulOk; decide +kernel
  have c4 : ((4400 : Nat) : Int) = 4400 := rfl
  have t1 := tell_mul (x := "1") (k := 4400) (tellB_ok (d := .str "1") (by decide +kernel) _ rfl).2 (by decide +kernel) (by decide)
  have t3 := tell_mul (x := "3") (k := 4400) (tellB_ok (d := .str "3") (by decide +kernel) _ rfl).2 (by decide +kernel) (by decide)
  rw [c4] at t1 t3
  obtain ⟨u1, hu1⟩ : ∃ u, Txt.mul "1" 4400 = u := ⟨_, rfl⟩
  obtain ⟨u3, hu3⟩ : ∃ u, Txt.mul "3" 4400 = u := ⟨_, rfl⟩
  rw [hu1] at t1
  rw [hu3] at t3
  have t7 := (tellB_ok (d := .str "7/") (by decide +kernel) _ rfl).2
  have l7 : ("7/" : Str).length ≤ 2 := by decide +kernel
  have tD := tell_two (x := u1) (y := "7/" ++ u3) (Nat.le_trans t1.1 (by decide)) t1.2 (Nat.le_trans (appL l7 t3.1) (by decide)) (okS_app t7 t3.2)
  refine e_lst ?_
  walk_at "q"
  all_goals first
    | with_reducible exact m1
    | with_reducible exact m3
    | skip
  all_goals clear m1 m3
  all_goals first | rw [hu1, hu3] | rw [hu3] | rw [hu1] | skip
  all_goals clear hu1 hu3
  all_goals first
    | exact Nat.le_trans (Nat.add_le_add l7 t3.1) (by decide)
    | exact Nat.le_of_ble_eq_true rfl
    | exact ⟨k0, Int.lt_of_lt_of_le k1 (Int.ofNat_le.mpr (Nat.le_of_ble_eq_true rfl))⟩
    | exact hP _ (tell_app (by decide +kernel) tD _ (getD_mem (Nat.lt_of_lt_of_le (show k.toNat < 26 by omega) (Nat.le_of_ble_eq_true rfl))))
end
end KK
set_option maxHeartbeats 4000000
namespace KK
open PySem PySem.Spec PyProof.Rows L2 QQ
local macro_rules | `(tactic| walk_at "o2") => `(tactic| first
  | refine o_add_int ?_
  | refine o_sub ?_
  | refine o_cmp ?_
  | refine o_isN ?_
  | refine o_notN ?_
  | refine o_eqS rfl ?_
  | refine o_neS rfl ?_
  | (refine o_add_str ?_ ?_; rotate_left)
  | (refine o_add_lst ?_ ?_; rotate_left)
  | (refine o_mul ?_ ?_; rotate_left)
  | (refine o_mul_str ?_ ?_; rotate_left)
  | (refine o_I ?_ ?_; rotate_left)
  | refine o_inSign ?_
  | refine o_notInSign ?_
  | refine o_ix_tup rfl ?_
  | refine o_ix_lst rfl ?_
  | refine o_ix_fz rfl ?_
  | refine o_ix_own rfl rfl ?_
  | (refine o_ix_str' ?_ ?_ ?_; rotate_left 2)
  | (refine o_ix_lst' ?_ ?_; rotate_left)
  | (refine o_ix_tup' ?_ ?_; rotate_left)
  | (refine o_ix_fz' ?_ ?_; rotate_left)
  | (refine o_eq ?_ ?_ ?_; rotate_left 2)
  | (refine o_ne ?_ ?_ ?_; rotate_left 2))
local macro_rules | `(tactic| walk_at "os") => `(tactic| first
  | (refine sl_str' ?_ ?_; rotate_left)
  | refine sl_lst' ?_
  | refine sl_fz' ?_
  | (refine sl_tup' ?_ ?_; rotate_left))
local macro_rules | `(tactic| walk_at "oa") => `(tactic| first
  | refine o_len_lst ?_
  | refine o_len_tup ?_
  | refine o_len_fz ?_
  | (refine o_len_str ?_ ?_; rotate_left)
  | refine o_len_own rfl ?_
  | refine o_abs ?_
  | refine o_max2 ?_
  | refine o_min2 ?_
  | refine o_int_bl ?_
  | (refine o_int_str ?_ ?_ ?_; rotate_left 2)
  | (refine o_str ?_ ?_; rotate_left)
  | refine o_isi_int ?_
  | refine o_isi_bool ?_
  | refine o_isi_str ?_
  | refine o_isi_tuple ?_
  | refine o_isi_list ?_
  | refine o_isi_dict ?_)
local macro_rules | `(tactic| walk_at "ee") => `(tactic| first
  | ((with_reducible refine id_name _ ?_); walk_at "var")
  | ((with_reducible refine id_const ?_); first | refine e_int ?_ | refine e_str ?_ | refine e_non ?_ | refine e_bl ?_)
  | ((with_reducible refine id_subs ?_); first | refine e_slice ?_ | refine e_sub ix_seq ?_)
  | ((with_reducible refine id_bin .Add ?_); refine e_bin (op := .Add) op_addA ?_)
  | ((with_reducible refine id_bin .Sub ?_); refine e_bin (op := .Sub) op_sub ?_)
  | ((with_reducible refine id_bin .Mult ?_); refine e_bin (op := .Mult) op_mulA ?_)
  | ((with_reducible refine id_bin .FloorDiv ?_); refine e_bin (op := .FloorDiv) op_fdivW ?_)
  | ((with_reducible refine id_bin .Mod ?_); refine e_bin (op := .Mod) op_mod ?_)
  | ((with_reducible refine id_bin .Pow ?_); refine e_bin (op := .Pow) op_pow ?_)
  | ((with_reducible refine id_cmp .Lt ?_); refine e_cmp (op := .Lt) op_lt ?_)
  | ((with_reducible refine id_cmp .LtE ?_); refine e_cmp (op := .LtE) op_le ?_)
  | ((with_reducible refine id_cmp .Gt ?_); refine e_cmp (op := .Gt) op_gt ?_)
  | ((with_reducible refine id_cmp .GtE ?_); refine e_cmp (op := .GtE) op_ge ?_)
  | ((with_reducible refine id_cmp .Is ?_); refine e_cmp (op := .Is) op_isN ?_)
  | ((with_reducible refine id_cmp .IsNot ?_); refine e_cmp (op := .IsNot) op_notN ?_)
  | ((with_reducible refine id_cmp .Eq ?_); refine e_cmp (op := .Eq) (op_eqA (by first | exact Room.units (by assumption) | assumption)) ?_)
  | ((with_reducible refine id_cmp .NotEq ?_); refine e_cmp (op := .NotEq) (op_neA (by first | exact Room.units (by assumption) | assumption)) ?_)
  | ((with_reducible refine id_cmp .In ?_); refine e_cmp (op := .In) op_in_sign ?_)
  | ((with_reducible refine id_cmp .NotIn ?_); refine e_cmp (op := .NotIn) op_notIn_sign ?_)
  | ((with_reducible refine id_calln "len" ?_); refine e_len (by assumption) ?_)
  | ((with_reducible refine id_calln "abs" ?_); refine e_abs (by assumption) ?_)
  | ((with_reducible refine id_calln "int" ?_); refine e_intc (by assumption) ?_)
  | ((with_reducible refine id_calln "str" ?_); refine e_strc (by assumption) ?_)
  | ((with_reducible refine id_calln "max" ?_); refine e_max (by assumption) (by assumption) ?_)
  | ((with_reducible refine id_calln "min" ?_); refine e_min (by assumption) (by assumption) ?_)
  | ((with_reducible refine id_calln "isinstance" ?_); first | refine e_isi (T := "int") (n := "int") (by assumption) (by assumption) ?_ | refine e_isi (T := "bool") (n := "bool") (by assumption) (by assumption) ?_ | refine e_isi (T := "str") (n := "str") (by assumption) (by assumption) ?_ | refine e_isi (T := "tuple") (n := "tuple") (by assumption) (by assumption) ?_ | refine e_isi (T := "list") (n := "list") (by assumption) (by assumption) ?_ | refine e_isi (T := "dict") (n := "dict") (by assumption) (by assumption) ?_)
  | ((with_reducible refine id_callm "partition" ?_); refine e_part ?_)
  | ((with_reducible refine id_callm "split" ?_); refine e_split ?_)
  | ((with_reducible refine id_callm "join" ?_); refine e_join ?_)
  | ((with_reducible refine id_callm "append" ?_); refine e_append ?_)
  | ((with_reducible refine id_bool ?_); first | refine e_one ?_ | refine e_and ?_ | refine e_or ?_)
  | ((with_reducible refine id_un .Not ?_); refine e_not ?_)
  | ((with_reducible refine id_un .USub ?_); refine e_un (op := .USub) un_neg ?_)
  | refine e_tup ?_
  | refine e_fmt ?_
  | refine e_joined ?_
  | refine e_ifExp ?_)
local macro_rules | `(tactic| walk_at "et") => `(tactic| first
  | ((with_reducible refine id_tnot ?_); refine t_not ?_)
  | ((with_reducible refine id_tbool ?_); first | refine t_w (w_and ?_) | refine t_w (w_or ?_))
  | ((with_reducible refine id_tcmp .Lt ?_); refine t_cmp (op := .Lt) op_lt ?_)
  | ((with_reducible refine id_tcmp .LtE ?_); refine t_cmp (op := .LtE) op_le ?_)
  | ((with_reducible refine id_tcmp .Gt ?_); refine t_cmp (op := .Gt) op_gt ?_)
  | ((with_reducible refine id_tcmp .GtE ?_); refine t_cmp (op := .GtE) op_ge ?_)
  | ((with_reducible refine id_tcmp .Is ?_); refine t_cmp (op := .Is) op_isN ?_)
  | ((with_reducible refine id_tcmp .IsNot ?_); refine t_cmp (op := .IsNot) op_notN ?_)
  | ((with_reducible refine id_tcmp .Eq ?_); refine t_cmp (op := .Eq) (op_eqA (by first | exact Room.units (by assumption) | assumption)) ?_)
  | ((with_reducible refine id_tcmp .NotEq ?_); refine t_cmp (op := .NotEq) (op_neA (by first | exact Room.units (by assumption) | assumption)) ?_)
  | ((with_reducible refine id_tcmp .In ?_); refine t_cmp (op := .In) op_in_sign ?_)
  | ((with_reducible refine id_tcmp .NotIn ?_); refine t_cmp (op := .NotIn) op_notIn_sign ?_)
  | ((with_reducible refine id_tcmp2 ?_); first | refine t_chain (op := .LtE) (op' := .LtE) op_le op_le ?_ | refine t_chain (op := .LtE) (op' := .Lt) op_le op_lt ?_ | refine t_chain (op := .Lt) (op' := .Lt) op_lt op_lt ?_)
  | refine t_val ?_)
local macro_rules | `(tactic| walk_at "ew") => `(tactic| first
  | refine w_and1 ?_
  | refine w_or1 ?_
  | refine w_and ?_
  | refine w_or ?_)
local macro_rules | `(tactic| walk_at "es") => `(tactic| first
  | ((with_reducible refine id_sret ?_); refine s_ret ?_)
  | ((with_reducible refine id_sif ?_); refine s_if ?_)
  | ((with_reducible refine id_sset _ ?_); walk_at "set")
  | ((with_reducible refine id_sasg ?_); refine s_asg ?_)
  | ((with_reducible refine id_sexpr ?_); refine s_expr ?_)
  | refine s_retN ?_
  | refine s_pass ?_)
local macro_rules | `(tactic| walk_at "q1") => `(tactic| first
  | ((with_reducible refine id_e ?_); walk_at "ee")
  | ((with_reducible refine id_o2 ?_); walk_at "o2")
  | ((with_reducible refine id_o1 ?_); refine o_neg (k := fun i => -i) rfl ?_)
  | ((with_reducible refine id_b ?_); first | refine b_cons ?_ | refine b_nil ?_)
  | ((with_reducible refine id_s ?_); walk_at "es")
  | ((with_reducible refine id_t ?_); walk_at "et")
  | ((with_reducible refine id_w ?_); walk_at "ew")
  | ((with_reducible refine id_a ?_); first | refine a_cons ?_ | refine a_nil ?_)
  | ((with_reducible refine id_oa ?_); walk_at "oa")
  | ((with_reducible refine id_os ?_); walk_at "os")
  | ((with_reducible refine id_p ?_); first | refine p_none ?_ | refine p_some ?_)
  | ((with_reducible refine id_gs ?_); first | refine gs_nil ?_ | walk_at "gs1")
  | ((with_reducible refine id_g ?_); first | walk_at "g1" | refine g_tup (by assumption) ?_ | refine g_unl (by assumption) ?_)
  | (with_reducible refine iteT ?_)
  | (with_reducible refine iteF ?_)
  | refine j_cons ?_
  | refine j_nil ?_
  | (refine o_fmt_int ?_ ?_; rotate_left)
  | (refine o_fmt_str ?_ ?_; rotate_left)
  | refine o_T rfl (Nat.le_of_ble_eq_true rfl) ?_
  | (refine o_part rfl ?_ ?_; rotate_left)
  | (refine o_split rfl ?_ ?_; rotate_left)
  | (refine o_j ?_ ?_; rotate_left)
  | (refine o_app (by assumption) ?_ ?_; rotate_left)
  | refine ⟨_, rfl, ?_⟩
  | refine ⟨⟨_, by assumption⟩, ?_⟩)
local macro_rules | `(tactic| walk_at "q") => `(tactic| repeat walk_at "q1")
local macro_rules | `(tactic| walk_at "qs") => `(tactic| repeat' (first | walk_at "q1" | refine ite2 (fun _ => ?_) (fun _ => ?_)))
local macro_rules | `(tactic| walk_at "len") => `(tactic| ((try simp only [Str.empty_append, Str.length_append]); (try (have : ("/" : Str).length = 1 := rfl)); omega))
section
variable {P : Program} {w : World} {K : PySem.W.Frag} {mg : Str → Option Value} {base : Heap} {CN CE : Addr}
theorem okS_of (s : String) : okS (Str.ofString s) := fun c hc => by
  have e : (Str.ofString s).cps.toList = s.toList.map Char.toNat := by
    rw [Str.ofString_eq_toList]
  rw [e, List.mem_map] at hc
  obtain ⟨x, _, rfl⟩ := hc
  have := x.valid
  rcases this with h | h
  · exact Nat.lt_trans h (by decide)
  · exact h.2
theorem okS_shR (a b : Int) : okS (shR a b) := by
  unfold shR
  split
  · exact okS_of _
  · exact okS_app (okS_app (okS_of _) (tellB_ok (d := .str "/") (by decide +kernel) _ rfl).2) (okS_of _)
theorem len_shR {a b : Int} (ha : Lt2 1900 a) (hb : Lt2 1900 b) : (shR a b).length ≤ 5000 := by
  have la := text_len ha
  have lb := text_len hb
  unfold shR
  split
  · omega
  · have l7 : ("/" : Str).length ≤ 1 := by decide +kernel
    exact Nat.le_trans (appL (appL la l7) lb) (by decide)
def sp__law_longer : FSp := fun as m Pq _ => ∃ a b c d : Int, as = [.dat (fr a b), .dat (fr c d)] ∧ FracB a b ∧ FracB c d ∧ Pq (.dat (.bool true)) m
local macro_rules | `(tactic| walk_at "var") => `(tactic| first | ((with_reducible refine id_name "one" ?_); refine e_var (i := 0) rfl rfl ?_) | ((with_reducible refine id_name "other" ?_); refine e_var (i := 1) rfl rfl ?_) | ((with_reducible refine id_name "product" ?_); refine e_var (i := 2) rfl rfl ?_) | ((with_reducible refine id_name "due" ?_); refine e_var (i := 3) rfl rfl ?_) | ((with_reducible refine id_name "text" ?_); refine e_var (i := 4) rfl rfl ?_))
local macro_rules | `(tactic| walk_at "set") => `(tactic| first | ((with_reducible refine id_sset "one" ?_); refine s_set (i := 0) (by assumption) rfl ?_) | ((with_reducible refine id_sset "other" ?_); refine s_set (i := 1) (by assumption) rfl ?_) | ((with_reducible refine id_sset "product" ?_); refine s_set (i := 2) (by assumption) rfl ?_) | ((with_reducible refine id_sset "due" ?_); refine s_set (i := 3) (by assumption) rfl ?_) | ((with_reducible refine id_sset "text" ?_); refine s_set (i := 4) (by assumption) rfl ?_))
local macro_rules | `(tactic| walk_at "g1") => `(tactic| first | ((with_reducible refine id_gname "one" ?_); refine g_name (i := 0) (by assumption) rfl ?_) | ((with_reducible refine id_gname "other" ?_); refine g_name (i := 1) (by assumption) rfl ?_) | ((with_reducible refine id_gname "product" ?_); refine g_name (i := 2) (by assumption) rfl ?_) | ((with_reducible refine id_gname "due" ?_); refine g_name (i := 3) (by assumption) rfl ?_) | ((with_reducible refine id_gname "text" ?_); refine g_name (i := 4) (by assumption) rfl ?_))
local macro_rules | `(tactic| walk_at "gs1") => `(tactic| first | ((with_reducible refine id_gsname "one" ?_); refine gs_name (i := 0) (by assumption) rfl ?_) | ((with_reducible refine id_gsname "other" ?_); refine gs_name (i := 1) (by assumption) rfl ?_) | ((with_reducible refine id_gsname "product" ?_); refine gs_name (i := 2) (by assumption) rfl ?_) | ((with_reducible refine id_gsname "due" ?_); refine gs_name (i := 3) (by assumption) rfl ?_) | ((with_reducible refine id_gsname "text" ?_); refine gs_name (i := 4) (by assumption) rfl ?_))
theorem ok__law_longer {f : Addr} {fd : FuncData} (B : Bl mg) (Ft : Df P w K mg base 3 "times" ["one", "other"] sp_times) (Fl : Df P w K mg base 2 "_law_lowest" ["top", "bottom"] sp_lowest) (Fs : Df P w K mg base 1 "shown_ratio" ["one"] sp_shown_ratio) (Fw : Df P w K mg base 1 "_law_written" ["one"] sp_shown_ratio)
    (Fr : Df P w K mg base 4 "_law_right" ["thing"] sp__law_right) (D : Dn K mg "_law_longer" s__law_longer ["one", "other"] f fd) : Df P w K mg base 5 "_law_longer" ["one", "other"] sp__law_longer := by
  refine Df.mk' D sc__law_longer (fun as m P EP ⟨_, _, _, _, e, _⟩ => by rw [e]; rfl) ?_
  rintro cdv A outer s H E hr nd cm po as m Pq EP ⟨a, b, c, d, rfl, h1, h2, hP⟩
  have z1 := B.isinstance
  have z2 := B.str
  have hac := Lt2.mul h1.top h2.top
  have hbd := Lt2.mul h1.bot h2.bot
  have X1 : Lt2 1900 (a * c / ((Int.gcd (a * c) (b * d) : Nat) : Int)) := (hac.div).mono (by decide)
  have Y1 : Lt2 1900 (b * d / ((Int.gcd (a * c) (b * d) : Nat) : Int)) := (hbd.div).mono (by decide)
  walk_at "q"
  refine e_call Ft (hr.mono (by decide)) ?_
  walk_at "q"
  refine ⟨_, _, _, _, rfl, h1.pos, h2.pos, h1.top.mono (by decide), h1.bot.mono (by decide), h2.top.mono (by decide), h2.bot.mono (by decide), ?_⟩
  walk_at "q"
  refine e_call Fl (hr.mono (by decide)) ?_
  walk_at "q"
  refine ⟨_, _, rfl, Int.mul_pos h1.pos h2.pos, hbd.mono (by decide), ?_⟩
  generalize a * c / ((Int.gcd (a * c) (b * d) : Nat) : Int) = X at *
  generalize b * d / ((Int.gcd (a * c) (b * d) : Nat) : Int) = Y at *
  walk_at "q"
  refine e_call Fs (hr.mono (by decide)) ?_
  walk_at "q"
  refine ⟨_, _, rfl, X1, Y1, ?_⟩
  walk_at "q"
  any_goals exact shaped_fr X Y
  any_goals exact mul_ok h1.top h2.top (by decide) (by decide) (by decide)
  any_goals exact mul_ok h1.bot h2.bot (by decide) (by decide) (by decide)
  rw [eqv_fr]
  refine ite2 (fun h => absurd h (by simp)) (fun _ => ?_)
  walk_at "q"
  refine iteF ?_
  walk_at "q"
  refine e_call Fw (hr.mono (by decide)) ?_
  walk_at "q"
  refine ⟨_, _, rfl, X1, Y1, ?_⟩
  walk_at "q"
  rw [eqv_strL]
  refine ite2 (fun h => absurd h (by simp)) (fun _ => ?_)
  walk_at "q"
  refine e_call Fr (hr.mono (by decide)) ?_
  walk_at "q"
  refine ⟨fun z hz => ?_, hP⟩
  cases hz
  exact ⟨Nat.le_trans (len_shR X1 Y1) (by decide), okS_shR X Y⟩
def sp_law : FSp := fun as m Pq _ => ∃ zs : List Int, as = [.fz (zs.map .int)] ∧ Pq (.dat (.bool true)) m
theorem paired9 {R : Int → Int → Prop} {xs : List Int} {a b c d e f g h i : Int} (p : Paired R xs [a, b, c, d, e, f, g, h, i]) : ∃ x0 x1 x2 x3 x4 x5 x6 x7 x8, xs = [x0, x1, x2, x3, x4, x5, x6, x7, x8] ∧ R x0 a ∧ R x1 b ∧ R x2 c ∧ R x3 d ∧ R x4 e ∧ R x5 f ∧ R x6 g ∧ R x7 h ∧ R x8 i := by
  cases p with
  | cons r0 p => cases p with
    | cons r1 p => cases p with
      | cons r2 p => cases p with
        | cons r3 p => cases p with
          | cons r4 p => cases p with
            | cons r5 p => cases p with
              | cons r6 p => cases p with
                | cons r7 p => cases p with
                  | cons r8 p => cases p; exact ⟨_, _, _, _, _, _, _, _, _, rfl, r0, r1, r2, r3, r4, r5, r6, r7, r8⟩
local macro_rules | `(tactic| walk_at "var") => `(tactic| first | ((with_reducible refine id_name "script" ?_); refine e_var (i := 0) rfl rfl ?_) | ((with_reducible refine id_name "ahead" ?_); refine e_var (i := 1) rfl rfl ?_) | ((with_reducible refine id_name "cell" ?_); refine e_var (i := 2) rfl rfl ?_) | ((with_reducible refine id_name "digits" ?_); refine e_var (i := 3) rfl rfl ?_) | ((with_reducible refine id_name "one" ?_); refine e_var (i := 4) rfl rfl ?_) | ((with_reducible refine id_name "text" ?_); refine e_var (i := 5) rfl rfl ?_) | ((with_reducible refine id_name "bent" ?_); refine e_var (i := 6) rfl rfl ?_) | ((with_reducible refine id_name "thing" ?_); refine e_var (i := 7) rfl rfl ?_))
local macro_rules | `(tactic| walk_at "set") => `(tactic| first | ((with_reducible refine id_sset "script" ?_); refine s_set (i := 0) (by assumption) rfl ?_) | ((with_reducible refine id_sset "ahead" ?_); refine s_set (i := 1) (by assumption) rfl ?_) | ((with_reducible refine id_sset "cell" ?_); refine s_set (i := 2) (by assumption) rfl ?_) | ((with_reducible refine id_sset "digits" ?_); refine s_set (i := 3) (by assumption) rfl ?_) | ((with_reducible refine id_sset "one" ?_); refine s_set (i := 4) (by assumption) rfl ?_) | ((with_reducible refine id_sset "text" ?_); refine s_set (i := 5) (by assumption) rfl ?_) | ((with_reducible refine id_sset "bent" ?_); refine s_set (i := 6) (by assumption) rfl ?_) | ((with_reducible refine id_sset "thing" ?_); refine s_set (i := 7) (by assumption) rfl ?_))
local macro_rules | `(tactic| walk_at "g1") => `(tactic| first | ((with_reducible refine id_gname "script" ?_); refine g_name (i := 0) (by assumption) rfl ?_) | ((with_reducible refine id_gname "ahead" ?_); refine g_name (i := 1) (by assumption) rfl ?_) | ((with_reducible refine id_gname "cell" ?_); refine g_name (i := 2) (by assumption) rfl ?_) | ((with_reducible refine id_gname "digits" ?_); refine g_name (i := 3) (by assumption) rfl ?_) | ((with_reducible refine id_gname "one" ?_); refine g_name (i := 4) (by assumption) rfl ?_) | ((with_reducible refine id_gname "text" ?_); refine g_name (i := 5) (by assumption) rfl ?_) | ((with_reducible refine id_gname "bent" ?_); refine g_name (i := 6) (by assumption) rfl ?_) | ((with_reducible refine id_gname "thing" ?_); refine g_name (i := 7) (by assumption) rfl ?_))
local macro_rules | `(tactic| walk_at "gs1") => `(tactic| first | ((with_reducible refine id_gsname "script" ?_); refine gs_name (i := 0) (by assumption) rfl ?_) | ((with_reducible refine id_gsname "ahead" ?_); refine gs_name (i := 1) (by assumption) rfl ?_) | ((with_reducible refine id_gsname "cell" ?_); refine gs_name (i := 2) (by assumption) rfl ?_) | ((with_reducible refine id_gsname "digits" ?_); refine gs_name (i := 3) (by assumption) rfl ?_) | ((with_reducible refine id_gsname "one" ?_); refine gs_name (i := 4) (by assumption) rfl ?_) | ((with_reducible refine id_gsname "text" ?_); refine gs_name (i := 5) (by assumption) rfl ?_) | ((with_reducible refine id_gsname "bent" ?_); refine gs_name (i := 6) (by assumption) rfl ?_) | ((with_reducible refine id_gsname "thing" ?_); refine gs_name (i := 7) (by assumption) rfl ?_))
theorem ok_law {f : Addr} {fd : FuncData} (B : Bl mg) (Fd : Df P w K mg base 1 "_law_draws" ["cell", "sizes"] sp__law_draws) (Ff : Df P w K mg base 3 "_law_fraction" ["digits", "above", "below"] sp__law_fraction) (Fs : Df P w K mg base 1 "shown_ratio" ["one"] sp_shown_ratio) (Fw : Df P w K mg base 1 "_law_written" ["one"] sp_shown_ratio)
    (Fg : Df P w K mg base 5 "_law_longer" ["one", "other"] sp__law_longer) (Fb : Df P w K mg base 1 "_law_bent" ["text", "way", "kind", "at"] sp__law_bent) (Fo : Df P w K mg base 1 "_law_other" ["kind"] sp__law_other)
    (Fr : Df P w K mg base 4 "_law_right" ["thing"] sp__law_right) (D : Dn K mg "law" s_law ["script"] f fd) : FnOk P w K mg base (L2N.CX P w) 6 f fd ["script"] (spOf K sp_law) := by
  refine fn_mk' D sc_law (fun as m P EP ⟨_, e, _⟩ => by rw [e]; rfl) ?_
  rintro cdv A outer s H E hr nd cm po as m Pq EP ⟨zs, rfl, hP⟩
  have z1 := B.isinstance
  have z2 := B.str
  walk_at "q"
  rotate_left
  · exact ⟨by decide, by decide, by decide⟩
  · exact ⟨by decide, by decide, by decide⟩
  refine s_for po cm ?_
  walk_at "q"
  refine e_lst ?_
  walk_at "q"
  rotate_left
  · rw [show (some (63 : Int)) = some ((63 : Nat) : Int) from rfl, cutL_take]
    show 1 + (List.take 63 _).length ≤ 1000000
    rw [List.length_take]
    omega
  rw [show (some (63 : Int)) = some ((63 : Nat) : Int) from rfl, cutL_take]
  have al : ∀ d ∈ (PyData.int 0 :: []) ++ List.take 63 (zs.map PyData.int), ∃ i, d = .int i := fun d hd => by
    rcases List.mem_append.mp hd with h | h
    · exact ⟨0, by simpa using h⟩
    · obtain ⟨i, _, e⟩ := List.mem_map.mp (List.mem_of_mem_take h)
      exact ⟨i, e.symm⟩
  refine ⟨fun k δ' m' => ∃ (a b : Int) (c1 c2 c3 c4 c5 c6 : Option AV), FracB a b ∧ δ' = [some (.fz (zs.map .int)), some (.dat (fr a b)), c1, c2, c3, c4, c5, c6] ∧ m' = m, ?_, ?_, ?_⟩
  · exact ⟨_, _, none, none, none, none, none, none, ⟨by decide, show (10 ^ 59 + 1 : Int).natAbs < 2 ^ 300 by decide, show (10 ^ 59 : Int).natAbs < 2 ^ 300 by decide⟩, rfl, rfl⟩
  · rintro k d δ' m' hd ⟨a, b, c1, c2, c3, c4, c5, c6, hab, rfl, rfl⟩
    obtain ⟨cell, rfl⟩ := al d (List.mem_of_getElem? hd)
    walk_at "q"
    refine e_call Fd (hr.mono (by decide)) ?_
    walk_at "q"
    refine e_lst ?_
    walk_at "q"
    rotate_left
    · exact ⟨by decide, by decide, by decide⟩
    · exact ⟨by decide, by decide, by decide⟩
    have e60 : (10 : Int) ^ (Int.toNat 60) = T60 := by decide +kernel
    rw [e60]
    refine ⟨cell, [4, 2, 2, 3, 20, 127, 26, T60, T60 - 1], rfl, ?_, by decide, fun xs hx => ?_⟩
    · intro z hz
      have hT : Lt2 900 T60 := (lt_T60 (by decide) (Int.le_refl _)).mono (by decide)
      have hT1 : Lt2 900 (T60 - 1) := (lt_T60 (by decide) (by omega)).mono (by decide)
      have hs : ∀ i : Int, 0 < i → i < 200 → 0 < i ∧ Lt2 900 i := fun i h0 h1 => ⟨h0, (lt_T60 (Int.le_of_lt h0) (by unfold T60; omega)).mono (by decide)⟩
      simp only [List.mem_cons, List.not_mem_nil, or_false] at hz
      rcases hz with rfl | rfl | rfl | rfl | rfl | rfl | rfl | rfl | rfl
      all_goals first | exact hs _ (by decide) (by decide) | exact ⟨by decide, hT⟩ | exact ⟨by decide, hT1⟩
    obtain ⟨x0, x1, x2, x3, x4, x5, x6, x7, x8, rfl, r0, r1, r2, r3, r4, r5, r6, r7, r8⟩ := paired9 hx
    walk_at "q"
    refine e_call Ff (hr.mono (by decide)) ?_
    walk_at "q"
    refine ⟨x0, x1, x2, x7, x8, rfl, r1.1, r1.2, r7.1, r7.2, r8.1, by have := r8.2; omega, fun t d hf => ?_⟩
    walk_at "q"
    refine e_call Fs (hr.mono (by decide)) ?_
    walk_at "q"
    refine ⟨_, _, rfl, hf.top.mono (by decide), hf.bot.mono (by decide), ?_⟩
    walk_at "q"
    refine iteF ?_
    walk_at "q"
    refine e_call Fw (hr.mono (by decide)) ?_
    walk_at "q"
    refine ⟨_, _, rfl, hf.top.mono (by decide), hf.bot.mono (by decide), ?_⟩
    walk_at "q"
    rw [eqv_strL]
    refine ite2 (fun h => absurd h (by simp)) (fun _ => ?_)
    walk_at "q"
    refine e_call Fg (hr.mono (by decide)) ?_
    walk_at "q"
    refine ⟨_, _, _, _, rfl, hf, hab, ?_⟩
    have hlen := len_shR (hf.top.mono (show 300 ≤ 1900 by decide)) (hf.bot.mono (show 300 ≤ 1900 by decide))
    have hok := okS_shR t d
    generalize shR t d = tx at *
    walk_at "q"
    refine iteF ?_
    walk_at "q"
    refine e_call Fb (hr.mono (by decide)) ?_
    walk_at "q"
    refine ⟨_, x3, x4, x5, rfl, hlen, hok, r4.1, r4.2, fun bt hbl hbo => ?_⟩
    walk_at "q"
    refine s_for po cm ?_
    refine e_lst ?_
    walk_at "q"
    refine e_call Fo (hr.mono (by decide)) ?_
    walk_at "q"
    refine ⟨r6.1, r6.2, fun dd hdd => ?_⟩
    walk_at "q"
    have al3 : ∀ d' ∈ [PyData.str tx, .str bt, dd], tellD d' := fun d' hd' => by
      simp only [List.mem_cons, List.not_mem_nil, or_false] at hd'
      rcases hd' with rfl | rfl | rfl
      · rintro z h; cases h; exact ⟨by omega, hok⟩
      · rintro z h; cases h; exact ⟨by omega, hbo⟩
      · exact hdd
    refine ⟨fun _ δ' m2 => ∃ c : Option AV, δ' = [some (.fz (zs.map .int)), some (.dat (fr t d)), some (.dat (.int cell)), some (.dat (.list ([x0, x1, x2, x3, x4, x5, x6, x7, x8].map .int))), some (.dat (fr t d)), some (.dat (.str tx)), some (.dat (.str bt)), c] ∧ m2 = m', ⟨_, rfl, rfl⟩, ?_, ?_⟩
    · rintro k2 d2 δ' m2 hd2 ⟨c, rfl, rfl⟩
      have ht := al3 _ (List.mem_of_getElem? hd2)
      walk_at "q"
      refine e_call Fr (hr.mono (by decide)) ?_
      walk_at "q"
      refine ⟨ht, ?_⟩
      walk_at "q"
      refine iteF ?_
      walk_at "q"
      exact rfl
    · rintro δ' m2 ⟨c, rfl, rfl⟩
      refine b_nil ?_
      exact ⟨_, _, _, _, _, _, _, _, hf, rfl, rfl⟩
  · rintro δ' m' ⟨a, b, c1, c2, c3, c4, c5, c6, hab, rfl, rfl⟩
    walk_at "q"
    exact hP
end
end KK
set_option maxHeartbeats 0
namespace KK
open PySem PySem.Spec PyProof.Rows L2 QQ
def fn : List He.DefD := [dM "NoText" "__init__" "NoText.__init__" s_NoText___init__, dG "divisor" s_divisor, dG "shown_ratio" s_shown_ratio, dG "whole_in" s_whole_in, dG "ratio_in" s_ratio_in, dG "read_ratio" s_read_ratio, dG "lowest" s_lowest, dG "times" s_times,
  dG "_law_draws" s__law_draws, dG "_law_whole" s__law_whole, dG "_law_divisor" s__law_divisor, dG "_law_lowest" s__law_lowest, dG "_law_figures" s__law_figures, dG "_law_number" s__law_number, dG "_law_written" s__law_written, dG "_law_fraction" s__law_fraction, dG "_law_bent" s__law_bent,
  dG "_law_other" s__law_other, dG "_law_right" s__law_right, dG "_law_longer" s__law_longer, dG "law" s_law]
def fa1 : List He.Fa := (["divisor", "shown_ratio", "whole_in", "ratio_in", "read_ratio", "lowest", "times", "_law_draws", "_law_whole", "_law_divisor", "_law_lowest", "_law_figures", "_law_number", "_law_written", "_law_fraction", "_law_bent", "_law_other", "_law_right", "_law_longer", "law", "NoText", "CutError"] : List Str).map He.Fa.glo
def fa2 : List He.Fa := (["abs", "bool", "int", "isinstance", "len", "max", "range", "str", "tuple", "ValueError"] : List Str).map He.Fa.free
def fa : List He.Fa := fa1 ++ (fa2 ++ [.str "FIGURES" "0123456789", .int "MOST_FIGURES" 60, .exm "NoText" "CutError" true])
def xk : List (PySem.W.Frag → Bool) := [excB "NoText" "row", catB "NoText", kitNB "NoText" "NoText" true, kitTB "NoText" "ValueError" true]
abbrev R : PySem.W.OpenRow := PySem.W.OpenLaw.row PySem.Challenge.rw_farthestcut_k74_fractions_written
abbrev hk : PySem.W.Hook := hookQ 6 fa xk fn
def ob (s : PySem.W.SharedT) : He.AlD := obsQG 6 fa xk fn (HandSHeadRun.getT s)
theorem ob_eq (s : PySem.W.SharedT) : ob s = hk.obs s.abs := obsQG_eq (HandSHeadRun.getT_eq s)
def loose : List PySem.Str := ["__name__", "CutError", "NoText", "divisor", "FIGURES", "MOST_FIGURES", "shown_ratio", "whole_in", "ratio_in", "read_ratio", "lowest", "times", "_law_draws", "_law_whole", "_law_divisor", "_law_lowest", "_law_figures", "_law_number", "_law_written", "_law_fraction", "_law_bent", "_law_other", "_law_right", "_law_longer"]
theorem run (w : World) : HandSHeadRun.RunEq R (PySem.W.view R.prog [28]) hk ob 2000 loose w := by
  intro os
  kernel_rfl
end KK
set_option maxHeartbeats 4000000
namespace KK
open PySem PySem.Spec PyProof.Rows L2 QQ
theorem facts {P : Program} {w : World} {K : PySem.W.Frag} {h : Heap} {mg : Str → Option Value} {f : Addr} (X : K.In h) (G : h.Ns mainGlobals mg) (hfa : mg ("law" : Str) = some (.ref f)) (c : SaysQ fa xk fn K) :
    ∃ fd : FuncData, (∀ (s : Shared) (v : Value), BindsTo s fd ⟨[v], []⟩ [("script", v)]) ∧ ∀ base : Heap, K.In base → base.Ns mainGlobals mg → FnOk P w K mg base (L2N.CX P w) 6 f fd ["script"] (spOf K sp_law) := by
  have g_divisor := He.glo_ok X G (c.fact 0 (f := .glo "divisor") rfl)
  have g_shown_ratio := He.glo_ok X G (c.fact 1 (f := .glo "shown_ratio") rfl)
  have g_whole_in := He.glo_ok X G (c.fact 2 (f := .glo "whole_in") rfl)
  have g_ratio_in := He.glo_ok X G (c.fact 3 (f := .glo "ratio_in") rfl)
  have g_read_ratio := He.glo_ok X G (c.fact 4 (f := .glo "read_ratio") rfl)
  have g_lowest := He.glo_ok X G (c.fact 5 (f := .glo "lowest") rfl)
  have g_times := He.glo_ok X G (c.fact 6 (f := .glo "times") rfl)
  have g__law_draws := He.glo_ok X G (c.fact 7 (f := .glo "_law_draws") rfl)
  have g__law_whole := He.glo_ok X G (c.fact 8 (f := .glo "_law_whole") rfl)
  have g__law_divisor := He.glo_ok X G (c.fact 9 (f := .glo "_law_divisor") rfl)
  have g__law_lowest := He.glo_ok X G (c.fact 10 (f := .glo "_law_lowest") rfl)
  have g__law_figures := He.glo_ok X G (c.fact 11 (f := .glo "_law_figures") rfl)
  have g__law_number := He.glo_ok X G (c.fact 12 (f := .glo "_law_number") rfl)
  have g__law_written := He.glo_ok X G (c.fact 13 (f := .glo "_law_written") rfl)
  have g__law_fraction := He.glo_ok X G (c.fact 14 (f := .glo "_law_fraction") rfl)
  have g__law_bent := He.glo_ok X G (c.fact 15 (f := .glo "_law_bent") rfl)
  have g__law_other := He.glo_ok X G (c.fact 16 (f := .glo "_law_other") rfl)
  have g__law_right := He.glo_ok X G (c.fact 17 (f := .glo "_law_right") rfl)
  have g__law_longer := He.glo_ok X G (c.fact 18 (f := .glo "_law_longer") rfl)
  have g_law := He.glo_ok X G (c.fact 19 (f := .glo "law") rfl)
  have gN := He.glo_ok X G (c.fact 20 (f := .glo "NoText") rfl)
  have gE := He.glo_ok X G (c.fact 21 (f := .glo "CutError") rfl)
  have b_abs := He.free_ok X G (c.fact 22 (f := .free "abs") rfl)
  have b_bool := He.free_ok X G (c.fact 23 (f := .free "bool") rfl)
  have b_int := He.free_ok X G (c.fact 24 (f := .free "int") rfl)
  have b_isinstance := He.free_ok X G (c.fact 25 (f := .free "isinstance") rfl)
  have b_len := He.free_ok X G (c.fact 26 (f := .free "len") rfl)
  have b_max := He.free_ok X G (c.fact 27 (f := .free "max") rfl)
  have b_range := He.free_ok X G (c.fact 28 (f := .free "range") rfl)
  have b_str := He.free_ok X G (c.fact 29 (f := .free "str") rfl)
  have b_tuple := He.free_ok X G (c.fact 30 (f := .free "tuple") rfl)
  have b_ValueError := He.free_ok X G (c.fact 31 (f := .free "ValueError") rfl)
  have eF := He.str_ok X G (c.fact 32 (f := .str "FIGURES" "0123456789") rfl)
  have eM := He.int_ok X G (c.fact 33 (f := .int "MOST_FIGURES" 60) rfl)
  have eX := He.exm_ok (c.fact 34 (f := .exm "NoText" "CutError" true) rfl)
  obtain ⟨x1, x2, x3, x4⟩ := excB_ok (c.ck 0 (f := excB "NoText" "row") rfl)
  obtain ⟨x5, x6⟩ := catB_ok (c.ck 1 (f := catB "NoText") rfl)
  have x7 : PySem.W.kitOne K (.ref (He.ga K "NoText")) (.ref (He.ga K "NoText")) = some true := of_decide_eq_true (c.ck 2 (f := kitNB "NoText" "NoText" true) rfl)
  have x8 : PySem.W.kitOne K (.ref (He.ga K "NoText")) (.type "ValueError") = some true := of_decide_eq_true (c.ck 3 (f := kitTB "NoText" "ValueError" true) rfl)
  have B : Bl mg := ⟨b_abs, b_bool, b_int, b_isinstance, b_len, b_max, b_range, b_str, b_tuple, eF, eM⟩
  obtain ⟨fdI, FI⟩ := c.dm 0 (C := "NoText") (x := "__init__") (qual := "NoText.__init__") (st := s_NoText___init__) rfl
  obtain ⟨fd_divisor, F_divisor⟩ := c.dg 1 (x := "divisor") (st := s_divisor) rfl
  have D_divisor := fun (ps : List Str) h => dn_of (mg := mg) (ps := ps) F_divisor g_divisor h
  obtain ⟨fd_shown_ratio, F_shown_ratio⟩ := c.dg 2 (x := "shown_ratio") (st := s_shown_ratio) rfl
  have D_shown_ratio := fun (ps : List Str) h => dn_of (mg := mg) (ps := ps) F_shown_ratio g_shown_ratio h
  obtain ⟨fd_whole_in, F_whole_in⟩ := c.dg 3 (x := "whole_in") (st := s_whole_in) rfl
  have D_whole_in := fun (ps : List Str) h => dn_of (mg := mg) (ps := ps) F_whole_in g_whole_in h
  obtain ⟨fd_ratio_in, F_ratio_in⟩ := c.dg 4 (x := "ratio_in") (st := s_ratio_in) rfl
  have D_ratio_in := fun (ps : List Str) h => dn_of (mg := mg) (ps := ps) F_ratio_in g_ratio_in h
  obtain ⟨fd_read_ratio, F_read_ratio⟩ := c.dg 5 (x := "read_ratio") (st := s_read_ratio) rfl
  have D_read_ratio := fun (ps : List Str) h => dn_of (mg := mg) (ps := ps) F_read_ratio g_read_ratio h
  obtain ⟨fd_lowest, F_lowest⟩ := c.dg 6 (x := "lowest") (st := s_lowest) rfl
  have D_lowest := fun (ps : List Str) h => dn_of (mg := mg) (ps := ps) F_lowest g_lowest h
  obtain ⟨fd_times, F_times⟩ := c.dg 7 (x := "times") (st := s_times) rfl
  have D_times := fun (ps : List Str) h => dn_of (mg := mg) (ps := ps) F_times g_times h
  obtain ⟨fd__law_draws, F__law_draws⟩ := c.dg 8 (x := "_law_draws") (st := s__law_draws) rfl
  have D__law_draws := fun (ps : List Str) h => dn_of (mg := mg) (ps := ps) F__law_draws g__law_draws h
  obtain ⟨fd__law_whole, F__law_whole⟩ := c.dg 9 (x := "_law_whole") (st := s__law_whole) rfl
  have D__law_whole := fun (ps : List Str) h => dn_of (mg := mg) (ps := ps) F__law_whole g__law_whole h
  obtain ⟨fd__law_divisor, F__law_divisor⟩ := c.dg 10 (x := "_law_divisor") (st := s__law_divisor) rfl
  have D__law_divisor := fun (ps : List Str) h => dn_of (mg := mg) (ps := ps) F__law_divisor g__law_divisor h
  obtain ⟨fd__law_lowest, F__law_lowest⟩ := c.dg 11 (x := "_law_lowest") (st := s__law_lowest) rfl
  have D__law_lowest := fun (ps : List Str) h => dn_of (mg := mg) (ps := ps) F__law_lowest g__law_lowest h
  obtain ⟨fd__law_figures, F__law_figures⟩ := c.dg 12 (x := "_law_figures") (st := s__law_figures) rfl
  have D__law_figures := fun (ps : List Str) h => dn_of (mg := mg) (ps := ps) F__law_figures g__law_figures h
  obtain ⟨fd__law_number, F__law_number⟩ := c.dg 13 (x := "_law_number") (st := s__law_number) rfl
  have D__law_number := fun (ps : List Str) h => dn_of (mg := mg) (ps := ps) F__law_number g__law_number h
  obtain ⟨fd__law_written, F__law_written⟩ := c.dg 14 (x := "_law_written") (st := s__law_written) rfl
  have D__law_written := fun (ps : List Str) h => dn_of (mg := mg) (ps := ps) F__law_written g__law_written h
  obtain ⟨fd__law_fraction, F__law_fraction⟩ := c.dg 15 (x := "_law_fraction") (st := s__law_fraction) rfl
  have D__law_fraction := fun (ps : List Str) h => dn_of (mg := mg) (ps := ps) F__law_fraction g__law_fraction h
  obtain ⟨fd__law_bent, F__law_bent⟩ := c.dg 16 (x := "_law_bent") (st := s__law_bent) rfl
  have D__law_bent := fun (ps : List Str) h => dn_of (mg := mg) (ps := ps) F__law_bent g__law_bent h
  obtain ⟨fd__law_other, F__law_other⟩ := c.dg 17 (x := "_law_other") (st := s__law_other) rfl
  have D__law_other := fun (ps : List Str) h => dn_of (mg := mg) (ps := ps) F__law_other g__law_other h
  obtain ⟨fd__law_right, F__law_right⟩ := c.dg 18 (x := "_law_right") (st := s__law_right) rfl
  have D__law_right := fun (ps : List Str) h => dn_of (mg := mg) (ps := ps) F__law_right g__law_right h
  obtain ⟨fd__law_longer, F__law_longer⟩ := c.dg 19 (x := "_law_longer") (st := s__law_longer) rfl
  have D__law_longer := fun (ps : List Str) h => dn_of (mg := mg) (ps := ps) F__law_longer g__law_longer h
  obtain ⟨fd_law, F_law⟩ := c.dg 20 (x := "law") (st := s_law) rfl
  have D_law := fun (ps : List Str) h => dn_of (mg := mg) (ps := ps) F_law g_law h
  cases hfa.symm.trans g_law
  refine ⟨fd_law, fun s v => FunD.bindsA (ps := ["script"]) F_law (fun _ _ _ _ _ _ us hl => match us, hl with | [_], _ => rfl) s [v] rfl, fun base _ _ => ?_⟩
  have Xx : Xc P w K mg base (He.ga K "NoText") (He.ga K "CutError") := ⟨⟨gN, x1, ⟨_, fdI, x2, x3, (fun_of FI).binds (ps := ["self", "row"]) (fun _ _ _ _ _ _ us hl => match us, hl with | [_, _], _ => rfl),
    init1_ok (fun_of FI) sc_NoText___init__ x1 x4 rfl (fun X e => by rw [e]; exact ⟨.inl rfl, .inl rfl⟩) rfl rfl (fun X e => by rfl)⟩, x4⟩, gE, b_ValueError, eX, x7, x8, x5, x6⟩
  have P_divisor := ok_divisor (P := P) (w := w) (base := base) B (D_divisor ["one", "other"] fun _ _ _ _ _ _ us hl => match us, hl with | [_, _], _ => rfl)
  have P_shown_ratio := ok_shown_ratio (P := P) (w := w) (base := base) B (D_shown_ratio ["one"] fun _ _ _ _ _ _ us hl => match us, hl with | [_], _ => rfl)
  have P_whole_in := ok_whole_in (P := P) (w := w) (base := base) B (D_whole_in ["signs"] fun _ _ _ _ _ _ us hl => match us, hl with | [_], _ => rfl)
  have P_ratio_in := ok_ratio_in (P := P) (w := w) (base := base) B P_whole_in P_divisor (D_ratio_in ["text"] fun _ _ _ _ _ _ us hl => match us, hl with | [_], _ => rfl)
  have P_read_ratio := ok_read_ratio (P := P) (w := w) (base := base) B Xx P_ratio_in (D_read_ratio ["text"] fun _ _ _ _ _ _ us hl => match us, hl with | [_], _ => rfl)
  have P_lowest := ok_lowest (P := P) (w := w) (base := base) B P_divisor (D_lowest ["top", "bottom"] fun _ _ _ _ _ _ us hl => match us, hl with | [_, _], _ => rfl)
  have P_times := ok_times (P := P) (w := w) (base := base) P_lowest (D_times ["one", "other"] fun _ _ _ _ _ _ us hl => match us, hl with | [_, _], _ => rfl)
  have P__law_draws := ok__law_draws (P := P) (w := w) (base := base) B (D__law_draws ["cell", "sizes"] fun _ _ _ _ _ _ us hl => match us, hl with | [_, _], _ => rfl)
  have P__law_whole := ok__law_whole (P := P) (w := w) (base := base) B (D__law_whole ["thing"] fun _ _ _ _ _ _ us hl => match us, hl with | [_], _ => rfl)
  have P__law_divisor := ok__law_divisor (P := P) (w := w) (base := base) B (D__law_divisor ["one", "other"] fun _ _ _ _ _ _ us hl => match us, hl with | [_, _], _ => rfl)
  have P__law_lowest := ok__law_lowest (P := P) (w := w) (base := base) P__law_divisor (D__law_lowest ["top", "bottom"] fun _ _ _ _ _ _ us hl => match us, hl with | [_, _], _ => rfl)
  have P__law_figures := ok__law_figures (P := P) (w := w) (base := base) B (D__law_figures ["signs"] fun _ _ _ _ _ _ us hl => match us, hl with | [_], _ => rfl)
  have P__law_number := ok__law_number (P := P) (w := w) (base := base) B P__law_figures P__law_divisor (D__law_number ["text"] fun _ _ _ _ _ _ us hl => match us, hl with | [_], _ => rfl)
  have P__law_written := ok__law_written (P := P) (w := w) (base := base) B (D__law_written ["one"] fun _ _ _ _ _ _ us hl => match us, hl with | [_], _ => rfl)
  have P__law_fraction := ok__law_fraction (P := P) (w := w) (base := base) P__law_lowest (D__law_fraction ["digits", "above", "below"] fun _ _ _ _ _ _ us hl => match us, hl with | [_, _, _], _ => rfl)
  have P__law_bent := ok__law_bent (P := P) (w := w) (base := base) B (D__law_bent ["text", "way", "kind", "at"] fun _ _ _ _ _ _ us hl => match us, hl with | [_, _, _, _], _ => rfl)
  have P__law_other := ok__law_other (P := P) (w := w) (base := base)  (D__law_other ["kind"] fun _ _ _ _ _ _ us hl => match us, hl with | [_], _ => rfl)
  have H_whole := okH__law_whole (P := P) (w := w) (base := base) B (D__law_whole ["thing"] fun _ _ _ _ _ _ us hl => match us, hl with | [_], _ => rfl)
  have P__law_right := ok__law_right B Xx P_read_ratio P__law_number P__law_whole H_whole (D__law_right ["thing"] fun _ _ _ _ _ _ us hl => match us, hl with | [_], _ => rfl)
  have P__law_longer := ok__law_longer B P_times P__law_lowest P_shown_ratio P__law_written P__law_right (D__law_longer ["one", "other"] fun _ _ _ _ _ _ us hl => match us, hl with | [_, _], _ => rfl)
  exact ok_law B P__law_draws P__law_fraction P_shown_ratio P__law_written P__law_longer P__law_bent P__law_other P__law_right (D_law ["script"] fun _ _ _ _ _ _ us hl => match us, hl with | [_], _ => rfl)
end KK
set_option maxHeartbeats 0
open PySem PySem.W PySem.Calls PyProof.Rows
theorem PySem.Challenge.cw_farthestcut_k74_fractions_written_holds : PySem.Challenge.rw_farthestcut_k74_fractions_written.Holds := by
  w_on; o_law
  refine HandSHeadRun.head_any (r := KK.R) (q := view KK.R.prog [28]) (H := KK.hk) (ob := KK.ob) (M := 2000) (loose := KK.loose) (d := HandSHeadRun.topDef KK.R.prog 28) (kwd := []) KK.ob_eq
    (by kernel_rfl) (fun s => by kernel_rfl) KK.run (by kernel_rfl) (by kernel_rfl) (by kernel_rfl) (by rfl) (by first | assumption | decide +kernel) (by decide +kernel) ⟨rfl, rfl, rfl, rfl, rfl, by decide +kernel⟩ ?hw ?hc
  case hw => w_witness2
  case hc =>
    refine QQ.walk_Q (l := PySem.Challenge.rw_farthestcut_k74_fractions_written) (n := 63) (k := 6) (x := "script") (S := KK.sp_law) rfl (by decide) (by kernel_rfl) ⟨rfl, by decide, by decide⟩ (fun ns _ _ _ _ hP => ⟨ns, rfl, hP⟩) ?F
    intro w mg f h Y G hm0
    obtain ⟨K, KX, c⟩ := Y
    have hm : mg ("law" : PySem.Str) = some (.ref f) := by
      have e : (HandSHeadRun.topDef KK.R.prog 28).name = ("law" : PySem.Str) := by kernel_rfl
      rw [← e]
      exact hm0
    obtain ⟨fd, hb, hF⟩ := KK.facts (P := (PySem.Challenge.rw_farthestcut_k74_fractions_written).prog) (w := w) KX G hm c
    exact ⟨K, fd, KX, hb, hF⟩

