import PyProof.Rows.All
import Wide.All
import OpenK.AllK
import Wide.FinOn
import HandS.ForMost
import HandS.Wide
import HandS.IsInst
import KE.GoesMore
import KE.GoesEnum
import KE.GoesZip
import HandS.WordsExc
import HandS.ExcOwn
import HandS.Set
import HandS.SetFor
import HandS.SetBool
import HandS.More
import PyProof.Rows.SortShellAny
import HandS.Replace
import HandS.ReplaceList
import PySem.Challenge.RW_rimprints_k55_whole_no_pair_missed
set_option Elab.async false
set_option linter.all false
set_option maxRecDepth 100000
set_option maxHeartbeats 4000000
/-! The data layer: what the hand layer's readings ask, said over plain data. -/
namespace Dl
open PySem PySem.Spec PyProof.Rows L2

/-- plain data: a text is its signs; ref: an object by its address, nothing said of it; sq: a list of ints that is only read -/
inductive Dat where
  | non | bl (b : Bool) | int (i : Int) | str (l : List Nat) | ty (n : String) | ref (a : Addr)
  | sq (ns : List Int) | lst (xs : List Dat) | tup (xs : List Dat) | dk (kvs : List (Key × Dat)) | obj (C : Addr) (fs : List (Str × Dat))

abbrev tx (l : List Nat) : Str := ⟨l.toArray⟩
theorem tx_toList (x : Str) : tx x.cps.toList = x := by cases x; simp [tx]
theorem tx_length (l : List Nat) : (tx l).length = l.length := by simp [tx, Str.length]
theorem tx_cps (l : List Nat) : (tx l).cps.toList = l := by simp [tx]
theorem tx_inj {a b : List Nat} (h : tx a = tx b) : a = b := by
  have := congrArg (fun z : Str => z.cps.toList) h
  simpa using this
theorem tx_append (a b : List Nat) : tx a ++ tx b = tx (a ++ b) := by
  show (⟨a.toArray ++ b.toArray⟩ : Str) = _
  simp [tx]

/-- addresses that no data may use -/
abbrev Av := Addr → Prop
def RdL (K : PySem.W.Frag) (AV : Av) (H : Hp) (a : Addr) (xs : List V) : Prop := ¬ AV a ∧ Rd H a (.lst xs)
def RdT (K : PySem.W.Frag) (AV : Av) (H : Hp) (a : Addr) (xs : List V) : Prop := (¬ AV a ∧ Rd H a (.tup xs)) ∨ ∀ H', SqT K H' a xs
theorem RdL.sq {K : PySem.W.Frag} {AV : Av} {H : Hp} {a : Addr} {xs : List V} (h : RdL K AV H a xs) : SqL K H a xs := .inl h.2
theorem RdT.sq {K : PySem.W.Frag} {AV : Av} {H : Hp} {a : Addr} {xs : List V} (h : RdT K AV H a xs) : SqT K H a xs := h.elim (fun z => .inl z.2) fun z => z H

section
variable (K : PySem.W.Frag) (AV : Av) (H : Hp)
mutual
/-- the value v is the datum d -/
def Rp : Dat → V → Prop
  | .non, v => v = .non
  | .bl b, v => v = .bl b
  | .int i, v => v = .int i
  | .str l, v => v = .str (tx l)
  | .ty n, v => v = .ty n
  | .ref a, v => v = .ref a
  | .sq ns, v => ∃ a, v = .ref a ∧ ((¬ AV a ∧ Rd H a (.lst (ns.map V.int))) ∨ ∀ H', SqL K H' a (ns.map V.int))
  | .lst ds, v => ∃ a xs, v = .ref a ∧ RdL K AV H a xs ∧ RpAll ds xs
  | .tup ds, v => ∃ a xs, v = .ref a ∧ RdT K AV H a xs ∧ RpAll ds xs
  | .dk kvs, v => ∃ a ws, v = .ref a ∧ ¬ AV a ∧ Rd H a (.dK ws) ∧ RpKv kvs ws
  | .obj C fs, v => ∃ a dx ws, v = .ref a ∧ ¬ AV a ∧ ¬ AV dx ∧ H a = some (.ins C dx ws) ∧ H dx = some (.own a) ∧ RpFs fs ws
def RpAll : List Dat → List V → Prop
  | [], xs => xs = []
  | d :: ds, xs => ∃ v vs, xs = v :: vs ∧ Rp d v ∧ RpAll ds vs
def RpKv : List (Key × Dat) → List (Key × V) → Prop
  | [], ws => ws = []
  | (k, d) :: r, ws => ∃ v vs, ws = (k, v) :: vs ∧ Rp d v ∧ RpKv r vs
def RpFs : List (Str × Dat) → List (Str × V) → Prop
  | [], ws => ws = []
  | (k, d) :: r, ws => ∃ v vs, ws = (k, v) :: vs ∧ Rp d v ∧ RpFs r vs
end
end

/-- all that was tracked and may not change stands -/
def ExtB (vs : List Addr) (H H' : Hp) : Prop := ∀ a o, a ∉ vs → H a = some o → H' a = some o
theorem ExtB.refl (vs : List Addr) (H : Hp) : ExtB vs H H := fun _ _ _ h => h
theorem ExtB.trans {vs : List Addr} {H H1 H2 : Hp} (a : ExtB vs H H1) (b : ExtB vs H1 H2) : ExtB vs H H2 := fun x o n h => b x o n (a x o n h)
theorem ExtB.of {vs : List Addr} {H H' : Hp} (h : Same H H') : ExtB vs H H' := fun a o _ e => h a o e
theorem Same.upd_new {H : Hp} {p : Addr} {o : HO} (h : H p = none) : Same H (upd H p o) := fun b u e => by
  rw [upd_ne (ne_of_none e h)]; exact e

section
variable {K : PySem.W.Frag} {AV AV' : Av} {H H' : Hp}
/-- what data lean on stands, and may still be used -/
structure Rel (AV : Av) (H : Hp) (AV' : Av) (H' : Hp) : Prop where
  keep : ∀ a o, ¬ AV a → H a = some o → H' a = some o
  new : ∀ a, AV' a → AV a ∨ H a = none
def Keeps (AV : Av) (H H' : Hp) : Prop := ∀ a o, ¬ AV a → H a = some o → H' a = some o
theorem Rel.refl {AV : Av} {H : Hp} : Rel AV H AV H := ⟨fun _ _ _ h => h, fun _ h => .inl h⟩
theorem Rel.trans {AV AV' AV2 : Av} {H H' H2 : Hp} (a : Rel AV H AV' H') (b : Rel AV' H' AV2 H2) : Rel AV H AV2 H2 :=
  ⟨fun x o n h => b.keep x o (fun z => (a.new x z).elim n fun e => by rw [h] at e; cases e) (a.keep x o n h), fun x z => by
    rcases b.new x z with z | z
    · exact a.new x z
    · by_cases n : AV x
      · exact .inl n
      · cases q : H x with
        | none => exact .inr rfl
        | some o => rw [a.keep x o n q] at z; cases z⟩
theorem Rd.keeps (k : Keeps AV H H') {a : Addr} {u : HO} (n : ¬ AV a) (h : Rd H a u) : Rd H' a u := by
  rcases h with h | ⟨o, h⟩
  · exact .inl (k _ _ n h)
  · exact .inr ⟨o, k _ _ n h⟩
theorem Rd.some {a : Addr} {u : HO} (h : Rd H a u) : ∃ o, H a = some o := h.elim (fun z => ⟨_, z⟩) fun ⟨o, z⟩ => ⟨_, z⟩
theorem Rel.ok (r : Rel AV H AV' H') {a : Addr} {o : HO} (n : ¬ AV a) (h : H a = .some o) : ¬ AV' a := fun z => (r.new a z).elim n fun e => by rw [h] at e; cases e
theorem Rel.rd (r : Rel AV H AV' H') {a : Addr} {u : HO} (h : ¬ AV a ∧ Rd H a u) : ¬ AV' a ∧ Rd H' a u := by
  obtain ⟨o, e⟩ := Rd.some h.2
  exact ⟨r.ok h.1 e, Rd.keeps r.keep h.1 h.2⟩
mutual
theorem Rp.rel (r : Rel AV H AV' H') : ∀ (d : Dat) {v : V}, Rp K AV H d v → Rp K AV' H' d v
  | .non, _, h => h
  | .bl _, _, h => h
  | .int _, _, h => h
  | .str _, _, h => h
  | .ty _, _, h => h
  | .ref _, _, h => h
  | .sq _, _, h => by
    unfold Rp at h ⊢
    obtain ⟨a, e, q⟩ := h
    exact ⟨a, e, q.imp r.rd id⟩
  | .lst ds, _, h => by
    unfold Rp at h ⊢
    obtain ⟨a, xs, e, n, q⟩ := h
    exact ⟨a, xs, e, r.rd n, RpAll.rel r ds q⟩
  | .tup ds, _, h => by
    unfold Rp at h ⊢
    obtain ⟨a, xs, e, n, q⟩ := h
    exact ⟨a, xs, e, n.imp r.rd id, RpAll.rel r ds q⟩
  | .dk kvs, _, h => by
    unfold Rp at h ⊢
    obtain ⟨a, ws, e, n, n2, q⟩ := h
    obtain ⟨z1, z2⟩ := r.rd ⟨n, n2⟩
    exact ⟨a, ws, e, z1, z2, RpKv.rel r kvs q⟩
  | .obj C fs, _, h => by
    unfold Rp at h ⊢
    obtain ⟨a, dx, ws, e, n, n2, h1, h2, q⟩ := h
    exact ⟨a, dx, ws, e, r.ok n h1, r.ok n2 h2, r.keep _ _ n h1, r.keep _ _ n2 h2, RpFs.rel r fs q⟩
theorem RpAll.rel (r : Rel AV H AV' H') : ∀ (ds : List Dat) {xs : List V}, RpAll K AV H ds xs → RpAll K AV' H' ds xs
  | [], _, h => by unfold RpAll at h ⊢; exact h
  | d :: ds, _, h => by
    unfold RpAll at h ⊢
    obtain ⟨v, vs, e, n, q⟩ := h
    exact ⟨v, vs, e, Rp.rel r d n, RpAll.rel r ds q⟩
theorem RpKv.rel (r : Rel AV H AV' H') : ∀ (ds : List (Key × Dat)) {xs : List (Key × V)}, RpKv K AV H ds xs → RpKv K AV' H' ds xs
  | [], _, h => by unfold RpKv at h ⊢; exact h
  | (y, d) :: ds, _, h => by
    unfold RpKv at h ⊢
    obtain ⟨v, vs, e, n, q⟩ := h
    exact ⟨v, vs, e, Rp.rel r d n, RpKv.rel r ds q⟩
theorem RpFs.rel (r : Rel AV H AV' H') : ∀ (ds : List (Str × Dat)) {xs : List (Str × V)}, RpFs K AV H ds xs → RpFs K AV' H' ds xs
  | [], _, h => by unfold RpFs at h ⊢; exact h
  | (y, d) :: ds, _, h => by
    unfold RpFs at h ⊢
    obtain ⟨v, vs, e, n, q⟩ := h
    exact ⟨v, vs, e, Rp.rel r d n, RpFs.rel r ds q⟩
end
theorem Rel.of (k : Keeps AV H H') (m : ∀ a, AV' a → AV a) : Rel AV H AV' H' := ⟨k, fun a z => .inl (m a z)⟩
theorem Rel.add {p : Addr} (hp : H p = none) : Rel AV H (fun a => AV a ∨ a = p) H := ⟨fun _ _ _ h => h, fun a z => z.elim .inl fun e => .inr (e ▸ hp)⟩
theorem Rp.keeps (k : Keeps AV H H') (m : ∀ a, AV' a → AV a) (d : Dat) {v : V} (h : Rp K AV H d v) : Rp K AV' H' d v := Rp.rel (.of k m) d h
theorem RpAll.keeps (k : Keeps AV H H') (m : ∀ a, AV' a → AV a) (d : List Dat) {v : List V} (h : RpAll K AV H d v) : RpAll K AV' H' d v := RpAll.rel (.of k m) d h
theorem Rp.more {p : Addr} (hp : H p = none) (d : Dat) {v : V} (h : Rp K AV H d v) : Rp K (fun a => AV a ∨ a = p) H d v := Rp.rel (.add hp) d h
theorem RpAll.more {p : Addr} (hp : H p = none) (d : List Dat) {v : List V} (h : RpAll K AV H d v) : RpAll K (fun a => AV a ∨ a = p) H d v := RpAll.rel (.add hp) d h
theorem RpAll.len : ∀ {ds : List Dat} {xs : List V}, RpAll K AV H ds xs → xs.length = ds.length
  | [], _, h => by unfold RpAll at h; subst h; rfl
  | d :: ds, _, h => by
    unfold RpAll at h
    obtain ⟨v, vs, e, r, q⟩ := h
    subst e
    simp [RpAll.len q]
theorem RpAll.get : ∀ {ds : List Dat} {xs : List V} {i : Nat} {d : Dat}, RpAll K AV H ds xs → ds[i]? = some d → ∃ v, xs[i]? = some v ∧ Rp K AV H d v
  | [], _, _, _, _, h => by simp at h
  | d :: ds, _, 0, _, h, e => by
    unfold RpAll at h
    obtain ⟨v, vs, e2, r, q⟩ := h
    subst e2
    simp at e; subst e
    exact ⟨v, rfl, r⟩
  | d :: ds, _, i + 1, _, h, e => by
    unfold RpAll at h
    obtain ⟨v, vs, e2, r, q⟩ := h
    subst e2
    simp at e
    obtain ⟨u, h1, h2⟩ := RpAll.get q e
    exact ⟨u, by simpa using h1, h2⟩
theorem RpAll.get' : ∀ {ds : List Dat} {xs : List V} {i : Nat} {v : V}, RpAll K AV H ds xs → xs[i]? = some v → ∃ d, ds[i]? = some d ∧ Rp K AV H d v
  | ds, xs, i, v, h, e => by
    have hl := h.len
    obtain ⟨h1, e1⟩ := List.getElem?_eq_some_iff.mp e
    have h2 : i < ds.length := by omega
    obtain ⟨u, h3, h4⟩ := RpAll.get h (List.getElem?_eq_getElem h2)
    rw [e] at h3
    cases h3
    exact ⟨_, List.getElem?_eq_getElem h2, h4⟩
theorem RpAll.nil : RpAll K AV H [] [] := by unfold RpAll; rfl
theorem RpAll.cons {d : Dat} {ds : List Dat} {v : V} {vs : List V} (h : Rp K AV H d v) (t : RpAll K AV H ds vs) : RpAll K AV H (d :: ds) (v :: vs) := by
  unfold RpAll; exact ⟨v, vs, rfl, h, t⟩
theorem RpAll.append : ∀ {ds es : List Dat} {xs ys : List V}, RpAll K AV H ds xs → RpAll K AV H es ys → RpAll K AV H (ds ++ es) (xs ++ ys)
  | [], _, _, _, h, t => by unfold RpAll at h; subst h; exact t
  | d :: ds, _, _, _, h, t => by
    unfold RpAll at h
    obtain ⟨v, vs, e2, r, q⟩ := h
    subst e2
    exact .cons r (RpAll.append q t)
theorem RpAll.take {ds : List Dat} {xs : List V} (n : Nat) (h : RpAll K AV H ds xs) : RpAll K AV H (ds.take n) (xs.take n) := by
  induction n generalizing ds xs with
  | zero => exact .nil
  | succ n ih =>
    cases ds with
    | nil => unfold RpAll at h; subst h; exact .nil
    | cons d ds =>
      unfold RpAll at h
      obtain ⟨v, vs, e2, r, q⟩ := h
      subst e2
      exact .cons r (ih q)
theorem RpAll.drop {ds : List Dat} {xs : List V} (n : Nat) (h : RpAll K AV H ds xs) : RpAll K AV H (ds.drop n) (xs.drop n) := by
  induction n generalizing ds xs with
  | zero => exact h
  | succ n ih =>
    cases ds with
    | nil => unfold RpAll at h; subst h; exact .nil
    | cons d ds =>
      unfold RpAll at h
      obtain ⟨v, vs, e2, r, q⟩ := h
      subst e2
      exact ih q
theorem RpAll.set {ds : List Dat} {xs : List V} {d : Dat} {v : V} (i : Nat) (h : RpAll K AV H ds xs) (r : Rp K AV H d v) : RpAll K AV H (ds.set i d) (xs.set i v) := by
  induction i generalizing ds xs with
  | zero =>
    cases ds with
    | nil => unfold RpAll at h; subst h; exact .nil
    | cons e ds =>
      unfold RpAll at h
      obtain ⟨u, vs, e2, r2, q⟩ := h
      subst e2
      exact .cons r q
  | succ n ih =>
    cases ds with
    | nil => unfold RpAll at h; subst h; exact .nil
    | cons e ds =>
      unfold RpAll at h
      obtain ⟨u, vs, e2, r2, q⟩ := h
      subst e2
      exact .cons r2 (ih q)
end
end Dl

/-! contexts, the readings over data, their soundness -/
namespace Dl
open PySem PySem.Spec PyProof.Rows L2

abbrev Sg := L2.St
/-- what may change through the run of a def: the objects at vs, told by a state of type S -/
structure DC (S : Type) where
  vs : List Addr
  I : Av → S → Hp → Prop
  trk : ∀ {AV s H a}, I AV s H → a ∈ vs → H a ≠ none
  anti : ∀ {AV AV' : Av} {s H}, (∀ a, AV' a → AV a) → I AV s H → I AV' s H
  keep : ∀ {AV s} {H H' : Hp}, I AV s H → (∀ a o, (a ∈ vs ∨ ¬ AV a) → H a = some o → H' a = some o) → I AV s H'
  ext : ∀ {AV s} {H H' : Hp} {p : Addr}, I AV s H → H p = none → (∀ a o, H a = some o → H' a = some o) → I (fun a => AV a ∨ a = p) s H'

/-- nothing changes -/
def C0 : DC Unit := ⟨[], fun _ _ _ => True, fun _ h => (nomatch h), fun _ h => h, fun h _ => h, fun _ _ _ => trivial⟩

/-- what a name holds: nothing told, a datum, a list that is the name's alone -/
inductive Sl where
  | no | dat (d : Dat) | own (xs : List Dat)

/-- a def's run: the context, the heap at its entry, what may not be used by data, exceptions' wish -/
structure DX (S : Type) where
  C : DC S
  H0 : Hp
  A0 : Av
  E : XK
  Ed : Value → S → Prop
  hE : ∀ {AV c dx H' s'}, (∀ a, A0 a → AV a) → ExtB C.vs H0 H' → C.I AV s' H' → Ed c s' → E c dx H'

structure EnvOk (vs : List Addr) (K : PySem.W.Frag) (AV : Av) (H : Hp) (σ : Sg) (ρ : List Sl) : Prop where
  len : σ.length = ρ.length
  dat : ∀ (i : Nat) (d : Dat), ρ[i]? = some (Sl.dat d) → ∃ v, σ[i]? = some (some v) ∧ Rp K AV H d v
  own : ∀ (i : Nat) (xs : List Dat), ρ[i]? = some (Sl.own xs) → ∃ a ys, σ[i]? = some (some (V.ref a)) ∧ AV a ∧ a ∉ vs ∧ H a = some (.lst ys) ∧ RpAll K AV H xs ys

/-- within an expression -/
structure At {S : Type} (D : DX S) (K : PySem.W.Frag) (AV : Av) (σ : Sg) (H : Hp) (ρ : List Sl) (s : S) : Prop where
  env : EnvOk D.C.vs K AV H σ ρ
  inv : D.C.I AV s H
  ext : ExtB D.C.vs D.H0 H
  trk : ∀ a, AV a → H a ≠ none
  vol : ∀ a ∈ D.C.vs, AV a
  low : ∀ a, D.A0 a → AV a

abbrev TD (S : Type) := List Sl → S → (Dat → S → Prop) → Prop
abbrev TDA (S : Type) := List Sl → S → (List Dat → S → Prop) → Prop
abbrev TDB (S : Type) := List Sl → S → (Bool → S → Prop) → Prop

section
variable {S : Type}
def LE (D : DX S) (K : PySem.W.Frag) (te : TE) (td : TD S) : Prop := ∀ AV σ H ρ s (Qd : Dat → S → Prop) (Q : VK), At D K AV σ H ρ s → td ρ s Qd →
  (∀ v H' d s', ExtB D.C.vs H H' → D.C.I AV s' H' → Rp K AV H' d v → Qd d s' → Q v H') → te σ H Q
def LA (D : DX S) (K : PySem.W.Frag) (te : TA) (td : TDA S) : Prop := ∀ AV σ H ρ s (Qd : List Dat → S → Prop) (Q : List V → Hp → Prop), At D K AV σ H ρ s → td ρ s Qd →
  (∀ vs H' ds s', ExtB D.C.vs H H' → D.C.I AV s' H' → RpAll K AV H' ds vs → Qd ds s' → Q vs H') → te σ H Q
def LT (D : DX S) (K : PySem.W.Frag) (te : TT) (td : TDB S) : Prop := ∀ AV σ H ρ s (Qd : Bool → S → Prop) (Q : Bool → Hp → Prop), At D K AV σ H ρ s → td ρ s Qd →
  (∀ b H' s', ExtB D.C.vs H H' → D.C.I AV s' H' → Qd b s' → Q b H') → te σ H Q
/-- the new list that the expression makes, by its address: it is nobody else's -/
def LF (D : DX S) (K : PySem.W.Frag) (te : TE) (td : TDA S) : Prop := ∀ AV σ H ρ s (Qd : List Dat → S → Prop) (Q : VK), At D K AV σ H ρ s → td ρ s Qd →
  (∀ p H' ds ys s', H p = none → ExtB D.C.vs H H' → D.C.I (fun a => AV a ∨ a = p) s' H' → H' p = some (.lst ys) → RpAll K (fun a => AV a ∨ a = p) H' ds ys → Qd ds s' → Q (.ref p) H') → te σ H Q

structure DE (X : Cx) (D : DX S) (e : Expr) (te : TE) (td : TD S) : Prop where
  pe : PE X e te
  le : LE D X.K te td
structure DA (X : Cx) (D : DX S) (es : List Expr) (te : TA) (td : TDA S) : Prop where
  pe : PA X es te
  le : LA D X.K te td
structure DT (X : Cx) (D : DX S) (e : Expr) (te : TT) (td : TDB S) : Prop where
  pe : PT X e te
  le : LT D X.K te td
structure DW (X : Cx) (D : DX S) (e : Expr) (te : TT) (td : TDB S) : Prop where
  pe : PW X e te
  le : LT D X.K te td
structure DF (X : Cx) (D : DX S) (e : Expr) (te : TE) (td : TDA S) : Prop where
  pe : PE X e te
  le : LF D X.K te td
end

section
variable {S : Type} {D : DX S} {K : PySem.W.Frag} {AV AV' : Av} {σ : Sg} {H H' : Hp} {ρ : List Sl} {s s' : S}
theorem notAV (A : At D K AV σ H ρ s) {p : Addr} (h : H p = none) : ¬ AV p := fun z => A.trk p z h
theorem At.keeps (A : At D K AV σ H ρ s) (e : ExtB D.C.vs H H') : Keeps AV H H' := fun a o n h => e a o (fun z => n (A.vol a z)) h
theorem EnvOk.go {vs : List Addr} (E : EnvOk vs K AV H σ ρ) (e : ExtB vs H H') (v : ∀ a ∈ vs, AV a) : EnvOk vs K AV H' σ ρ := by
  have k : Keeps AV H H' := fun a o n h => e a o (fun z => n (v a z)) h
  refine ⟨E.len, fun i d h => ?_, fun i xs h => ?_⟩
  · obtain ⟨u, h1, h2⟩ := E.dat i d h
    exact ⟨u, h1, Rp.keeps k (fun _ z => z) d h2⟩
  · obtain ⟨a, ys, h1, h2, h3, h4, h5⟩ := E.own i xs h
    exact ⟨a, ys, h1, h2, h3, e _ _ h3 h4, RpAll.keeps k (fun _ z => z) xs h5⟩
theorem trk_go {vs : List Addr} (t : ∀ a, AV a → H a ≠ none) (e : ExtB vs H H') (i : ∀ a ∈ vs, H' a ≠ none) : ∀ a, AV a → H' a ≠ none := fun a z => by
  by_cases ha : a ∈ vs
  · exact i a ha
  · cases q : H a with
    | none => exact absurd q (t a z)
    | some o => rw [e a o ha q]; exact fun z => by cases z
/-- behind an evaluation -/
theorem At.go (A : At D K AV σ H ρ s) (e : ExtB D.C.vs H H') (i : D.C.I AV s' H') : At D K AV σ H' ρ s' :=
  ⟨A.env.go e A.vol, i, A.ext.trans e, trk_go A.trk e fun a ha => D.C.trk i ha, A.vol, A.low⟩
theorem At.same (A : At D K AV σ H ρ s) (e : Same H H') : At D K AV σ H' ρ s :=
  A.go (ExtB.of e) (D.C.keep A.inv fun a o _ h => e a o h)
/-- a new object that no data may use -/
theorem EnvOk.more {vs : List Addr} (E : EnvOk vs K AV H σ ρ) {p : Addr} (hp : H p = none) (e : Same H H') : EnvOk vs K (fun a => AV a ∨ a = p) H' σ ρ := by
  have k : Keeps (fun a => AV a ∨ a = p) H H' := fun a o _ h => e a o h
  refine ⟨E.len, fun i d h => ?_, fun i xs h => ?_⟩
  · obtain ⟨u, h1, h2⟩ := E.dat i d h
    exact ⟨u, h1, Rp.keeps k (fun _ z => z) d (Rp.more hp d h2)⟩
  · obtain ⟨a, ys, h1, h2, h3, h4, h5⟩ := E.own i xs h
    exact ⟨a, ys, h1, .inl h2, h3, e _ _ h4, RpAll.keeps k (fun _ z => z) xs (RpAll.more hp xs h5)⟩
theorem At.more (A : At D K AV σ H ρ s) {p : Addr} {o : HO} (hp : H p = none) (e : Same H H') (hq : H' p = some o) : At D K (fun a => AV a ∨ a = p) σ H' ρ s :=
  ⟨A.env.more hp e, D.C.ext A.inv hp e, A.ext.trans (ExtB.of e), fun a z => by
    rcases z with z | z
    · cases q : H a with
      | none => exact absurd q (A.trk a z)
      | some o => rw [e a o q]; exact fun z => by cases z
    · rw [z, hq]; exact (fun z => by cases z), fun a z => .inl (A.vol a z), fun a z => .inl (A.low a z)⟩
end
end Dl

/-! expressions -/
namespace Dl
open PySem PySem.Spec PyProof.Rows L2

@[simp] def look : List Sl → Nat → Sl
  | [], _ => .no
  | x :: _, 0 => x
  | _ :: r, n + 1 => look r n
theorem look_get : ∀ {ρ : List Sl} {i : Nat} {x : Sl}, look ρ i = x → x ≠ .no → ρ[i]? = some x
  | [], _, _, h, n => absurd h.symm n
  | y :: _, 0, _, h, _ => by rw [← h]; rfl
  | _ :: r, i + 1, _, h, n => by rw [List.getElem?_cons_succ]; exact look_get h n
theorem look_dat {ρ : List Sl} {i : Nat} {d : Dat} (h : look ρ i = .dat d) : ρ[i]? = some (.dat d) := look_get h fun z => by cases z
theorem look_own {ρ : List Sl} {i : Nat} {d : List Dat} (h : look ρ i = .own d) : ρ[i]? = some (.own d) := look_get h fun z => by cases z
@[simp] def Sl.asDat : Sl → (Dat → Prop) → Prop
  | .dat d, k => k d
  | _, _ => False
@[simp] def Sl.asOwn : Sl → (List Dat → Prop) → Prop
  | .own d, k => k d
  | _, _ => False
theorem Sl.asDat_of {x : Sl} {k : Dat → Prop} (h : x.asDat k) : ∃ d, x = .dat d ∧ k d := by
  cases x with
  | dat d => exact ⟨d, rfl, h⟩
  | no => exact h.elim
  | own _ => exact h.elim
theorem Sl.asOwn_of {x : Sl} {k : List Dat → Prop} (h : x.asOwn k) : ∃ d, x = .own d ∧ k d := by
  cases x with
  | own d => exact ⟨d, rfl, h⟩
  | no => exact h.elim
  | dat _ => exact h.elim

section
variable {S : Type}
@[simp] def dVar (i : Nat) : TD S := fun ρ s Q => (look ρ i).asDat fun d => Q d s
@[simp] def dC (d : Dat) : TD S := fun _ s Q => Q d s
@[simp] def dNil : TDA S := fun _ s Q => Q [] s
@[simp] def dCons (ta : TD S) (tr : TDA S) : TDA S := fun ρ s Q => ta ρ s fun x s1 => tr ρ s1 fun xs s2 => Q (x :: xs) s2
/-- a two-place operation on data -/
abbrev R2d := Dat → Dat → (Dat → Prop) → Prop
abbrev R1d := Dat → (Dat → Prop) → Prop
abbrev RAd := List Dat → (Dat → Prop) → Prop
@[simp] def dOp (f : R2d) (ta tb : TD S) : TD S := fun ρ s Q => ta ρ s fun x s1 => tb ρ s1 fun y s2 => f x y fun z => Q z s2
@[simp] def dUn (f : R1d) (ta : TD S) : TD S := fun ρ s Q => ta ρ s fun x s1 => f x fun z => Q z s1
@[simp] def dAp (f : RAd) (ta : TDA S) : TD S := fun ρ s Q => ta ρ s fun xs s1 => f xs fun z => Q z s1
@[simp] def asB : Dat → (Bool → Prop) → Prop
  | .bl b, k => k b
  | _, _ => False
theorem asB_of {x : Dat} {k : Bool → Prop} (h : asB x k) : ∃ b, x = .bl b ∧ k b := by
  cases x with
  | bl b => exact ⟨b, rfl, h⟩
  | _ => exact h.elim
/-- a value that is True or False, as a test -/
@[simp] def dB (t : TD S) : TDB S := fun ρ s Q => t ρ s fun x s1 => asB x fun b => Q b s1
@[simp] def dAnd (t u : TDB S) : TDB S := fun ρ s Q => t ρ s fun c s1 => (c = true → u ρ s1 Q) ∧ (c = false → Q false s1)
@[simp] def dOr (t u : TDB S) : TDB S := fun ρ s Q => t ρ s fun c s1 => (c = true → Q true s1) ∧ (c = false → u ρ s1 Q)
@[simp] def dNot (t : TDB S) : TDB S := fun ρ s Q => t ρ s fun c s1 => Q (!c) s1
@[simp] def dAndV (t u : TD S) : TD S := fun ρ s Q => t ρ s fun x s1 => asB x fun c => (c = true → u ρ s1 Q) ∧ (c = false → Q (.bl false) s1)
@[simp] def dOrV (t u : TD S) : TD S := fun ρ s Q => t ρ s fun x s1 => asB x fun c => (c = true → Q (.bl true) s1) ∧ (c = false → u ρ s1 Q)
@[simp] def dNotV (t : TD S) : TD S := fun ρ s Q => t ρ s fun x s1 => asB x fun c => Q (.bl (!c)) s1
@[simp] def dIf (t : TDB S) (ta tb : TD S) : TD S := fun ρ s Q => t ρ s fun c s1 => (c = true → ta ρ s1 Q) ∧ (c = false → tb ρ s1 Q)
end

/-- soundness of an operation on values -/
def LR (K : PySem.W.Frag) (r : R2) (f : R2d) : Prop := ∀ AV H x y dx dy (Qd : Dat → Prop) (Q : VK), (∀ a, AV a → H a ≠ none) → Rp K AV H dx x → Rp K AV H dy y → f dx dy Qd →
  (∀ v H' d, Same H H' → Rp K AV H' d v → Qd d → Q v H') → r x y H Q
def LU (K : PySem.W.Frag) (r : V → Hp → VK → Prop) (f : R1d) : Prop := ∀ AV H x dx (Qd : Dat → Prop) (Q : VK), (∀ a, AV a → H a ≠ none) → Rp K AV H dx x → f dx Qd →
  (∀ v H' d, Same H H' → Rp K AV H' d v → Qd d → Q v H') → r x H Q
def LC (K : PySem.W.Frag) (r : List V → Hp → VK → Prop) (f : RAd) : Prop := ∀ AV H xs ds (Qd : Dat → Prop) (Q : VK), (∀ a, AV a → H a ≠ none) → RpAll K AV H ds xs → f ds Qd →
  (∀ v H' d, Same H H' → Rp K AV H' d v → Qd d → Q v H') → r xs H Q

section
variable {S : Type} {D : DX S} {X : Cx} {a b c e : Expr} {es rest : List Expr} {ta tb : TE} {da db : TD S} {tA : TA} {dA : TDA S} {t u : TT} {qt qu : TDB S} {pos : Pos}

theorem le_var {K : PySem.W.Frag} {i : Nat} : LE D K (tVar i) (dVar i) := fun AV σ H ρ s Qd Q A h k => by
  obtain ⟨d, e, q⟩ := Sl.asDat_of h
  obtain ⟨v, h1, h2⟩ := A.env.dat i d (look_dat e)
  exact ⟨v, h1, k v H d s (.refl _ _) A.inv h2 q⟩
theorem de_var {i : Nat} {x : Str} (p : PE X (.Name x pos) (tVar i)) : DE X D (.Name x pos) (tVar i) (dVar i) := ⟨p, le_var⟩
theorem le_c {K : PySem.W.Frag} {v : V} {d : Dat} (r : ∀ AV H, Rp K AV H d v) : LE D K (tC v) (dC d) := fun AV σ H ρ s Qd Q A h k => k v H d s (.refl _ _) A.inv (r AV H) h
theorem de_int {i : Int} {j : Nat} : DE X D (.Constant (.int i) j pos) (tC (.int i)) (dC (.int i)) := ⟨pe_int, le_c fun _ _ => by unfold Rp; rfl⟩
theorem de_bl {i : Bool} {j : Nat} : DE X D (.Constant (.bool i) j pos) (tC (.bl i)) (dC (.bl i)) := ⟨pe_bl, le_c fun _ _ => by unfold Rp; rfl⟩
theorem de_non {j : Nat} : DE X D (.Constant .none j pos) (tC .non) (dC .non) := ⟨pe_non, le_c fun _ _ => by unfold Rp; rfl⟩
theorem de_str {x : Str} {j : Nat} (l : List Nat) (h : x.cps.toList = l := by decide +kernel) : DE X D (.Constant (.str x) j pos) (tC (.str x)) (dC (.str l)) :=
  ⟨pe_str, le_c fun _ _ => by unfold Rp; rw [← h, tx_toList]⟩
/-- a module's constant -/
theorem de_glob {x : Str} {v : V} {d : Dat} {w : Value} (hg : Gl X x) (hm : X.mg x = some w) (r : RelV v w) (q : ∀ AV H, Rp X.K AV H d v) (hd : (x == ("__debug__" : Str)) = false := by decide) : DE X D (.Name x pos) (tC v) (dC d) :=
  ⟨pe_glob hg hm r hd, le_c q⟩
theorem de_gint {x : Str} {i : Int} (hm : ∃ t, X.mg x = some (.int i t)) (hg : Gl X x := by rfl) (hd : (x == ("__debug__" : Str)) = false := by decide) : DE X D (.Name x pos) (tC (.int i)) (dC (.int i)) := by
  obtain ⟨t, h⟩ := hm
  exact de_glob hg h ⟨t, rfl⟩ (fun _ _ => by unfold Rp; rfl) hd
theorem de_gstr {x y : Str} (l : List Nat) (hm : ∃ t, X.mg x = some (.str y t)) (h : y.cps.toList = l := by decide +kernel) (hg : Gl X x := by rfl) (hd : (x == ("__debug__" : Str)) = false := by decide) : DE X D (.Name x pos) (tC (.str y)) (dC (.str l)) := by
  obtain ⟨t, h'⟩ := hm
  exact de_glob hg h' ⟨t, rfl⟩ (fun _ _ => by unfold Rp; rw [← h, tx_toList]) hd
theorem de_gref {x : Str} {f : Addr} (hm : X.mg x = some (.ref f)) (hg : Gl X x := by rfl) (hd : (x == ("__debug__" : Str)) = false := by decide) : DE X D (.Name x pos) (tC (.ref f)) (dC (.ref f)) :=
  de_glob hg hm rfl (fun _ _ => by unfold Rp; rfl) hd
/-- a built-in type as a value -/
theorem de_ty {x : Str} {n : String} (hm : X.mg x = none) (hv : bootBuiltins x = some (.type n)) (hg : Gl X x := by rfl) (hn : x ≠ "__name__" := by decide) (hd : (x == ("__debug__" : Str)) = false := by decide) : DE X D (.Name x pos) (tC (.ty n)) (dC (.ty n)) :=
  ⟨pe_bltn hg hm hv rfl hn hd, le_c fun _ _ => by unfold Rp; rfl⟩

theorem da_nil : DA X D [] tNil dNil := ⟨pa_nil, fun AV σ H ρ s Qd Q A h k => k [] H [] s (.refl _ _) A.inv .nil h⟩
theorem la_cons {K : PySem.W.Frag} (ha : LE D K ta da) (hr : LA D K tA dA) : LA D K (tCons ta tA) (dCons da dA) := fun AV σ H ρ s Qd Q A h k => by
  refine ha AV σ H ρ s _ _ A h fun x H1 dx s1 e1 i1 rx q1 => ?_
  have A1 := A.go e1 i1
  refine hr AV σ H1 ρ s1 _ _ A1 q1 fun xs H2 dxs s2 e2 i2 rxs q2 => ?_
  exact k _ H2 _ s2 (e1.trans e2) i2 (.cons (Rp.keeps (A1.keeps e2) (fun _ z => z) dx rx) rxs) q2
theorem da_cons (ha : DE X D e ta da) (hr : DA X D es tA dA) (hs : starEach (e :: es) X.env = (false, eval e X.env) :: starEach es X.env := by rfl) : DA X D (e :: es) (tCons ta tA) (dCons da dA) := ⟨pa_cons ha.pe hr.pe hs, la_cons ha.le hr.le⟩

theorem le_op {K : PySem.W.Frag} {r : R2} {f : R2d} (lr : LR K r f) (ha : LE D K ta da) (hb : LE D K tb db) : LE D K (tOp r ta tb) (dOp f da db) := fun AV σ H ρ s Qd Q A h k => by
  refine ha AV σ H ρ s _ _ A h fun x H1 dx s1 e1 i1 rx q1 => ?_
  have A1 := A.go e1 i1
  refine hb AV σ H1 ρ s1 _ _ A1 q1 fun y H2 dy s2 e2 i2 ry q2 => ?_
  have A2 := A1.go e2 i2
  refine lr AV H2 x y dx dy _ _ A2.trk (Rp.keeps (A1.keeps e2) (fun _ z => z) dx rx) ry q2 fun v H' d sm rd q => ?_
  exact k v H' d s2 ((e1.trans e2).trans (.of sm)) (A2.same sm).inv rd q
theorem le_un {K : PySem.W.Frag} {r : V → Hp → VK → Prop} {f : R1d} (lr : LU K r f) (ha : LE D K ta da) : LE D K (tUn r ta) (dUn f da) := fun AV σ H ρ s Qd Q A h k => by
  refine ha AV σ H ρ s _ _ A h fun x H1 dx s1 e1 i1 rx q1 => ?_
  have A1 := A.go e1 i1
  refine lr AV H1 x dx _ _ A1.trk rx q1 fun v H' d sm rd q => ?_
  exact k v H' d s1 (e1.trans (.of sm)) (A1.same sm).inv rd q
theorem le_ap {K : PySem.W.Frag} {r : List V → Hp → VK → Prop} {f : RAd} (lr : LC K r f) (ha : LA D K tA dA) : LE D K (tCB r tA) (dAp f dA) := fun AV σ H ρ s Qd Q A h k => by
  refine ha AV σ H ρ s _ _ A h fun xs H1 dx s1 e1 i1 rx q1 => ?_
  have A1 := A.go e1 i1
  refine lr AV H1 xs dx _ _ A1.trk rx q1 fun v H' d sm rd q => ?_
  exact k v H' d s1 (e1.trans (.of sm)) (A1.same sm).inv rd q
theorem de_op {op : Operator} {r : R2} {f : R2d} (ho : OpR X (binaryOp op) r) (lr : LR X.K r f) (ha : DE X D a ta da) (hb : DE X D b tb db) : DE X D (.BinOp a op b pos) (tOp r ta tb) (dOp f da db) := ⟨pe_op ho ha.pe hb.pe, le_op lr ha.le hb.le⟩
theorem de_un {op : UnaryOp} {r : V → Hp → VK → Prop} {f : R1d} (ho : UnR X (unaryOp op) r) (lr : LU X.K r f) (ha : DE X D a ta da) : DE X D (.UnaryOp op a pos) (tUn r ta) (dUn f da) := ⟨pe_un ho ha.pe, le_un lr ha.le⟩
/-- a comparison, as a value, as a test -/
theorem de_cmp {op : CmpOp} {r : R2} {f : R2d} (ho : OpR X (compareOp op) r) (lr : LR X.K r f) (ha : DE X D a ta da) (hb : DE X D b tb db) (hm : behindInMarks op b = false) : DE X D (.Compare a [op] [b] pos) (tOp r ta tb) (dOp f da db) := ⟨pe_cmpR ho ha.pe hb.pe hm, le_op lr ha.le hb.le⟩
theorem lt_test {K : PySem.W.Frag} (ha : LE D K ta da) : LT D K (tTest ta) (dB da) := fun AV σ H ρ s Qd Q A h k => by
  refine ha AV σ H ρ s _ _ A h fun x H1 dx s1 e1 i1 rx q1 => ?_
  obtain ⟨b, rfl, q⟩ := asB_of q1
  unfold Rp at rx
  subst rx
  exact ⟨b, rfl, k b H1 s1 e1 i1 q⟩
theorem lt_B {K : PySem.W.Frag} (ha : LE D K ta da) : LT D K (tB ta) (dB da) := fun AV σ H ρ s Qd Q A h k => by
  refine ha AV σ H ρ s _ _ A h fun x H1 dx s1 e1 i1 rx q1 => ?_
  obtain ⟨b, rfl, q⟩ := asB_of q1
  unfold Rp at rx
  subst rx
  exact ⟨b, rfl, k b H1 s1 e1 i1 q⟩
theorem dt_cmp {op : CmpOp} {r : R2} {f : R2d} (ho : OpR X (compareOp op) r) (lr : LR X.K r f) (ha : DE X D a ta da) (hb : DE X D b tb db) (hm : behindInMarks op b = false) : DT X D (.Compare a [op] [b] pos) (tTest (tOp r ta tb)) (dB (dOp f da db)) := ⟨pt_cmpR ho ha.pe hb.pe hm, lt_test (le_op lr ha.le hb.le)⟩
theorem dt_val (ha : DE X D a ta da) (he : ∀ whole, isTrue a X.env whole = (do let v ← whole; standAt a.pos; holding [v] (truthy v)) := by intro _; rfl) : DT X D a (tB ta) (dB da) := ⟨pt_val ha.pe he, lt_B ha.le⟩
theorem DW.dt (h : DW X D e t qt) : DT X D e t qt := ⟨h.pe.pt, h.le⟩
theorem dw_and1 (ha : DT X D a t qt) : DW X D (.BoolOp .And [a] pos) t qt := ⟨pw_and1 ha.pe, ha.le⟩
theorem dw_or1 (ha : DT X D a t qt) : DW X D (.BoolOp .Or [a] pos) t qt := ⟨pw_or1 ha.pe, ha.le⟩
theorem lt_and {K : PySem.W.Frag} (ha : LT D K t qt) (hb : LT D K u qu) : LT D K (tAnd t u) (dAnd qt qu) := fun AV σ H ρ s Qd Q A h k => by
  refine ha AV σ H ρ s _ _ A h fun c H1 s1 e1 i1 q1 => ?_
  cases c with
  | true => exact iteT (hb AV σ H1 ρ s1 _ _ (A.go e1 i1) (q1.1 rfl) fun b H2 s2 e2 i2 q2 => k b H2 s2 (e1.trans e2) i2 q2)
  | false => exact iteF (k false H1 s1 e1 i1 (q1.2 rfl))
theorem lt_or {K : PySem.W.Frag} (ha : LT D K t qt) (hb : LT D K u qu) : LT D K (tOr t u) (dOr qt qu) := fun AV σ H ρ s Qd Q A h k => by
  refine ha AV σ H ρ s _ _ A h fun c H1 s1 e1 i1 q1 => ?_
  cases c with
  | false => exact iteF (hb AV σ H1 ρ s1 _ _ (A.go e1 i1) (q1.2 rfl) fun b H2 s2 e2 i2 q2 => k b H2 s2 (e1.trans e2) i2 q2)
  | true => exact iteT (k true H1 s1 e1 i1 (q1.1 rfl))
theorem dw_and (ha : DT X D a t qt) (hb : DW X D (.BoolOp .And (b :: rest) pos) u qu) : DW X D (.BoolOp .And (a :: b :: rest) pos) (tAnd t u) (dAnd qt qu) := ⟨pw_and ha.pe hb.pe, lt_and ha.le hb.le⟩
theorem dw_or (ha : DT X D a t qt) (hb : DW X D (.BoolOp .Or (b :: rest) pos) u qu) : DW X D (.BoolOp .Or (a :: b :: rest) pos) (tOr t u) (dOr qt qu) := ⟨pw_or ha.pe hb.pe, lt_or ha.le hb.le⟩
theorem dt_not (ha : DT X D a t qt) : DT X D (.UnaryOp .Not a pos) (tNot t) (dNot qt) := ⟨pt_not ha.pe, fun AV σ H ρ s Qd Q A h k => ha.le AV σ H ρ s _ _ A h fun c H1 s1 e1 i1 q1 => k _ H1 s1 e1 i1 q1⟩
theorem de_one {op : BoolOp} (h : DE X D a ta da) : DE X D (.BoolOp op [a] pos) ta da := ⟨pe_one h.pe, h.le⟩
theorem de_and (ha : DE X D a ta da) (hb : DE X D (.BoolOp .And (b :: rest) pos) tb db) : DE X D (.BoolOp .And (a :: b :: rest) pos) (tAndV ta tb) (dAndV da db) := ⟨pe_and ha.pe hb.pe, fun AV σ H ρ s Qd Q A h k => by
  refine ha.le AV σ H ρ s _ _ A h fun x H1 dx s1 e1 i1 rx q1 => ?_
  obtain ⟨c, rfl, q⟩ := asB_of q1
  unfold Rp at rx
  subst rx
  refine ⟨c, rfl, ?_⟩
  cases c with
  | true => exact iteT (hb.le AV σ H1 ρ s1 _ _ (A.go e1 i1) (q.1 rfl) fun v H2 d s2 e2 i2 r2 q2 => k v H2 d s2 (e1.trans e2) i2 r2 q2)
  | false => exact iteF (k _ H1 (.bl false) s1 e1 i1 (by unfold Rp; rfl) (q.2 rfl))⟩
theorem de_or (ha : DE X D a ta da) (hb : DE X D (.BoolOp .Or (b :: rest) pos) tb db) : DE X D (.BoolOp .Or (a :: b :: rest) pos) (tOrV ta tb) (dOrV da db) := ⟨pe_or ha.pe hb.pe, fun AV σ H ρ s Qd Q A h k => by
  refine ha.le AV σ H ρ s _ _ A h fun x H1 dx s1 e1 i1 rx q1 => ?_
  obtain ⟨c, rfl, q⟩ := asB_of q1
  unfold Rp at rx
  subst rx
  refine ⟨c, rfl, ?_⟩
  cases c with
  | false => exact iteF (hb.le AV σ H1 ρ s1 _ _ (A.go e1 i1) (q.2 rfl) fun v H2 d s2 e2 i2 r2 q2 => k v H2 d s2 (e1.trans e2) i2 r2 q2)
  | true => exact iteT (k _ H1 (.bl true) s1 e1 i1 (by unfold Rp; rfl) (q.1 rfl))⟩
theorem de_not (ha : DE X D a ta da) : DE X D (.UnaryOp .Not a pos) (tNotV ta) (dNotV da) := ⟨pe_not ha.pe, fun AV σ H ρ s Qd Q A h k => by
  refine ha.le AV σ H ρ s _ _ A h fun x H1 dx s1 e1 i1 rx q1 => ?_
  obtain ⟨c, rfl, q⟩ := asB_of q1
  unfold Rp at rx
  subst rx
  exact ⟨c, rfl, k _ H1 _ s1 e1 i1 (by unfold Rp; rfl) q⟩⟩
theorem de_if (hc : DT X D c t qt) (ha : DE X D a ta da) (hb : DE X D b tb db) : DE X D (.IfExp c a b pos) (tIf t ta tb) (dIf qt da db) := ⟨pe_ifExp hc.pe ha.pe hb.pe, fun AV σ H ρ s Qd Q A h k => by
  refine hc.le AV σ H ρ s _ _ A h fun c H1 s1 e1 i1 q1 => ?_
  cases c with
  | true => exact iteT (ha.le AV σ H1 ρ s1 _ _ (A.go e1 i1) (q1.1 rfl) fun v H2 d s2 e2 i2 r2 q2 => k v H2 d s2 (e1.trans e2) i2 r2 q2)
  | false => exact iteF (hb.le AV σ H1 ρ s1 _ _ (A.go e1 i1) (q1.2 rfl) fun v H2 d s2 e2 i2 r2 q2 => k v H2 d s2 (e1.trans e2) i2 r2 q2)⟩
end
end Dl

/-! operations on data -/
namespace Dl
open PySem PySem.Spec PyProof.Rows L2

/-- the longest thing that the model lets be -/
abbrev big : Nat := 16777216
theorem big_eq : sizeLine = big := sizeLine_eq

/-! ### a + b -/
@[simp] def dAdd : R2d
  | .int i, .int j, k => k (.int (i + j))
  | .str a, .str b, k => a.length + b.length ≤ big ∧ k (.str (a ++ b))
  | .lst a, .lst b, k => a.length + b.length ≤ big ∧ k (.lst (a ++ b))
  | .int i, .bl b, k => k (.int (i + b2i b))
  | .tup a, .tup b, k => a ≠ [] ∧ b ≠ [] ∧ a.length + b.length ≤ big ∧ k (.tup (a ++ b))
  | _, _, _ => False
section
variable {K : PySem.W.Frag} {AV : Av} {H : Hp} {v : V}
theorem rp_non : Rp K AV H .non .non := by unfold Rp; rfl
theorem rp_bl {b : Bool} : Rp K AV H (.bl b) (.bl b) := by unfold Rp; rfl
theorem rp_int {i : Int} : Rp K AV H (.int i) (.int i) := by unfold Rp; rfl
theorem rp_str {l : List Nat} : Rp K AV H (.str l) (.str (tx l)) := by unfold Rp; rfl
theorem rp_strOf {x : Str} {l : List Nat} (h : x.cps.toList = l) : Rp K AV H (.str l) (.str x) := by unfold Rp; rw [← h, tx_toList]
theorem rp_newL {p : Addr} {ds : List Dat} {xs : List V} (n : ¬ AV p) (h : H p = some (.lst xs)) (r : RpAll K AV H ds xs) : Rp K AV H (.lst ds) (.ref p) := by unfold Rp; exact ⟨p, xs, rfl, ⟨n, .inl h⟩, r⟩
theorem rp_newT {p : Addr} {ds : List Dat} {xs : List V} (n : ¬ AV p) (h : H p = some (.tup xs)) (r : RpAll K AV H ds xs) : Rp K AV H (.tup ds) (.ref p) := by unfold Rp; exact ⟨p, xs, rfl, .inl ⟨n, .inl h⟩, r⟩
theorem RpAll.same {H' : Hp} {ds : List Dat} {xs : List V} (h : RpAll K AV H ds xs) (e : Same H H') : RpAll K AV H' ds xs := RpAll.keeps (fun a o _ q => e a o q) (fun _ z => z) ds h
theorem Rp.same {H' : Hp} {d : Dat} {x : V} (h : Rp K AV H d x) (e : Same H H') : Rp K AV H' d x := Rp.keeps (fun a o _ q => e a o q) (fun _ z => z) d h
end

section
variable {X : Cx} {pins : List (Addr × Obj)} {σ : L2.St} {H : Hp} {s : Shared}
theorem Inv.lstR {l : Addr} {xs : List V} (I : Inv X pins σ H s) (h : Rd H l (.lst xs)) : xs.length ≤ sizeLine ∧ ∃ (its : List Value) (n : Nat), Vals xs its ∧ s.heap.get? l = some { cls := .type "list", data := .seq its.toArray n } := h.ok I.hok
/-- list + list, both only read -/
def rCatR : R2 := fun x y H Q => ∃ l b xs zs, x = .ref l ∧ y = .ref b ∧ Rd H l (.lst xs) ∧ Rd H b (.lst zs) ∧ xs.length + zs.length ≤ sizeLine ∧ ∀ p, H p = none → Q (.ref p) (upd H p (.lst (xs ++ zs)))
theorem op_catR : OpR X (binaryOp .Add) rCatR := by
  intro pins s σ H x y v u Q I rx ry h
  obtain ⟨l, b, xs, zs, rfl, rfl, hl, hb, hz, q⟩ := h
  cases rx; cases ry
  obtain ⟨_, its, n, r, e⟩ := Inv.lstR I hl
  obtain ⟨_, its2, n2, r2, e2⟩ := Inv.lstR I hb
  have l1 := r.length
  have l2 := r2.length
  refine PySem.P.add_list e e2 ?_ (by simp only [List.size_toArray]; omega)
  rw [show its.toArray ++ its2.toArray = (its ++ its2).toArray by simp]
  exact ⟨.ref _, _, I.lnew (t' := s.toks) (r.append r2) (by rw [List.length_append]; exact hz), rfl, q _ I.fresh⟩
def rAddA (K : PySem.W.Frag) : R2 := fun x y H Q => (rI0 fun i j => .int (i + j)) x y H Q ∨ (∃ i j, x = .str i ∧ y = .str j ∧ i.length + j.length ≤ sizeLine ∧ Q (.str (i ++ j)) H) ∨ rCatR x y H Q ∨
  (∃ i k, x = .int i ∧ y = .bl k ∧ Q (.int (i + b2i k)) H) ∨ rCatT K x y H Q
theorem op_addA : OpR X (binaryOp .Add) (rAddA X.K) := op_add.or (op_add_str.or (op_catR.or (op_add_ib.or op_catT)))
end
theorem lr_add {K : PySem.W.Frag} : LR K (rAddA K) dAdd := by
  intro AV H x y dx dy Qd Q trk rx ry h k
  unfold dAdd at h
  split at h
  · unfold Rp at rx ry; subst rx ry
    exact .inl ⟨_, _, rfl, rfl, k _ H _ (.refl H) rp_int h⟩
  · unfold Rp at rx ry; subst rx ry
    refine .inr (.inl ⟨_, _, rfl, rfl, by rw [tx_length, tx_length, big_eq]; exact h.1, ?_⟩)
    rw [tx_append]
    exact k _ H _ (.refl H) rp_str h.2
  · unfold Rp at rx ry
    obtain ⟨a, xs, rfl, ra, qa⟩ := rx
    obtain ⟨b, ys, rfl, rb, qb⟩ := ry
    refine .inr (.inr (.inl ⟨a, b, xs, ys, rfl, rfl, ra.2, rb.2, by rw [qa.len, qb.len, big_eq]; exact h.1, fun p hp => ?_⟩))
    have e : Same H (upd H p (.lst (xs ++ ys))) := Same.upd_new hp
    exact k _ _ _ e (rp_newL (fun z => trk p z hp) upd_same ((qa.same e).append (qb.same e))) h.2
  · unfold Rp at rx ry; subst rx ry
    exact .inr (.inr (.inr (.inl ⟨_, _, rfl, rfl, k _ H _ (.refl H) rp_int h⟩)))
  · unfold Rp at rx ry
    obtain ⟨a, xs, rfl, ra, qa⟩ := rx
    obtain ⟨b, ys, rfl, rb, qb⟩ := ry
    obtain ⟨h1, h2, h3, h4⟩ := h
    have la := qa.len
    have lb := qb.len
    refine .inr (.inr (.inr (.inr ⟨a, b, xs, ys, rfl, rfl, ra.sq, rb.sq, fun z => h1 ?_, by rw [la, lb, big_eq]; exact h3, fun z => absurd ?_ h2, fun _ p hp => ?_⟩)))
    · rw [z] at la; exact List.eq_nil_of_length_eq_zero la.symm
    · rw [z] at lb; exact List.eq_nil_of_length_eq_zero lb.symm
    · have e : Same H (upd H p (.tup (xs ++ ys))) := Same.upd_new hp
      exact k _ _ _ e (rp_newT (fun z => trk p z hp) upd_same ((qa.same e).append (qb.same e))) h4
  · exact h.elim

/-! ### a - b, a * b, a % b, a // b, a ** b, -a -/
@[simp] def dSub : R2d
  | .int i, .int j, k => k (.int (i - j))
  | _, _, _ => False
theorem lr_sub {K : PySem.W.Frag} : LR K (rI0 fun i j => .int (i - j)) dSub := by
  intro AV H x y dx dy Qd Q trk rx ry h k
  unfold dSub at h
  split at h
  · unfold Rp at rx ry; subst rx ry
    exact ⟨_, _, rfl, rfl, k _ H _ (.refl H) rp_int h⟩
  · exact h.elim
/-- so many times a list (none of it below 1) -/
def rep {α : Type} (xs : List α) (k : Int) : List α := (List.replicate k.toNat xs).flatten
@[simp] def dMul : R2d
  | .int i, .int j, k => (CMul i j ∨ CMulW i j) ∧ k (.int (i * j))
  | .str a, .int j, k => -1000000000 ≤ j ∧ j ≤ 1000000000 ∧ a.length * j.toNat ≤ big ∧ k (.str (rep a j))
  | .lst a, .int j, k => -1000000000 ≤ j ∧ j ≤ 1000000000 ∧ a.length * j.toNat ≤ big ∧ k (.lst (rep a j))
  | _, _, _ => False
theorem foldl_cat {α : Type} (a : List α) : ∀ (n : Nat) (acc : List α), List.foldl (fun x y => x ++ y) acc.toArray (List.replicate n a.toArray) = (acc ++ (List.replicate n a).flatten).toArray
  | 0, acc => by simp
  | n + 1, acc => by
    rw [List.replicate_succ, List.foldl_cons, show acc.toArray ++ a.toArray = (acc ++ a).toArray by simp, foldl_cat a n]
    simp [List.replicate_succ]
theorem txt_mul (a : List Nat) (j : Int) : Txt.mul (tx a) j = tx (rep a j) := by
  unfold Txt.mul rep
  by_cases h1 : j < 1
  · rw [if_pos h1, show j.toNat = 0 by omega]; rfl
  · rw [if_neg h1]
    by_cases h2 : (j == 1 || (tx a).length == 0) = true
    · rw [if_pos h2]
      rw [Bool.or_eq_true, beq_iff_eq, beq_iff_eq, tx_length] at h2
      rcases h2 with h2 | h2
      · subst h2; simp
      · have : a = [] := List.eq_nil_of_length_eq_zero h2
        subst this
        simp
    · rw [if_neg h2]
      have := foldl_cat a j.toNat []
      rw [List.nil_append] at this
      exact congrArg Str.mk this
section
variable {X : Cx}
theorem op_mulS : OpR X (binaryOp .Mult) (fun x y H Q => ∃ a j, x = .str (tx a) ∧ y = .int j ∧ -1000000000 ≤ j ∧ j ≤ 1000000000 ∧ a.length * j.toNat ≤ sizeLine ∧ Q (.str (tx (rep a j))) H) := by
  intro pins s σ H x y v u Q I rx ry h
  obtain ⟨a, j, rfl, rfl, h1, h2, h3, q⟩ := h
  obtain ⟨t, rfl⟩ := rx
  obtain ⟨t', rfl⟩ := ry
  refine PySem.SB.mul ⟨?_, fun h4 _ => ?_, fun h4 _ => ?_⟩ fun t' kk => ?_
  · rw [decide_eq_false (by omega), decide_eq_false (by omega)]; rfl
  · rw [tx_length]
    have hs : sizeLine = 16777216 := sizeLine_eq
    have ha : a.length ≤ 16777216 := by
      have : a.length * 1 ≤ a.length * j.toNat := Nat.mul_le_mul_left _ (by omega)
      omega
    have hd : (9223372036 : Int) ≤ (2 ^ 63 - 1) / j := by
      apply (Int.le_ediv_iff_mul_le (by omega)).mpr
      have : 9223372036 * j ≤ 9223372036 * 1000000000 := Int.mul_le_mul_of_nonneg_left h2 (by decide)
      omega
    omega
  · rw [tx_length]
    unfold Builtin.Str.tooLong
    exact decide_eq_false (by omega)
  · rw [txt_mul]
    exact ⟨.str _, H, I.tok _, ⟨_, rfl⟩, q⟩
/-- list * int, the list only read -/
def rRepR : R2 := fun x y H Q => ∃ l k xs, x = .ref l ∧ y = .int k ∧ Rd H l (.lst xs) ∧ -(2 ^ 63) ≤ k ∧ k < 2 ^ 63 ∧ xs.length * k.toNat ≤ sizeLine ∧ ∀ p, H p = none → Q (.ref p) (upd H p (.lst (List.replicate k.toNat xs).flatten))
theorem op_repR : OpR X (binaryOp .Mult) rRepR := by
  intro pins s σ H x y v u Q I rx ry h
  obtain ⟨l, k, xs, rfl, rfl, hH, h1, h2, hz, q⟩ := h
  cases rx
  obtain ⟨t, rfl⟩ := ry
  obtain ⟨_, its, n, r, e⟩ := Inv.lstR I hH
  have hl := r.length
  have hz' : its.toArray.size * k.toNat ≤ sizeLine := by rw [List.size_toArray, ← hl]; exact hz
  have w1 : (sizeLine : Nat) ≤ (2 ^ 63 - 1) / 8 := by decide
  have hfit : ¬ (!Builtin.List.listFitsIndex k) = true := by rw [fitsIndex_both h1 h2]; simp
  have hcap : ¬ its.toArray.size * k.toNat > (2 ^ 63 - 1) / 8 := Nat.not_lt.mpr (Nat.le_trans hz' w1)
  have hlong : ¬ Builtin.List.listTooLong (its.toArray.size * k.toNat) = true := by rw [notLongL hz']; simp
  have hnew : List.foldl (fun x1 x2 => x1 ++ x2) #[] (List.replicate (if its.toArray.isEmpty = true then 0 else k.toNat) its.toArray) = (List.replicate k.toNat its).flatten.toArray := by
    have f0 := fun m => foldl_cat its m []
    simp only [List.nil_append] at f0
    rw [f0]
    cases its with
    | nil => simp
    | cons a r' => rw [if_neg (by simp)]
  refine wpAny_binaryOp_repeat_ref (T := "list") (U := "int") (by decide) ⟨_, e, rfl⟩ (fun s' => typeIs_int s' k t) noFill_list_mul F.fills_int_mul F.slot_int_rmul repeat_list F.slot_int_index.lookup ?_
  refine call_meets F.slot_int_rmul (typeIs_int s k t) F.entry_int_rmul (F.args_int_rmul_2 _ _) (int___rmul___int_list k t l its.toArray n) ⟨e, rfl, ⟨_, e, rfl⟩, ?_⟩
  refine call_meets F.slot_list_mul ⟨_, e, rfl⟩ F.entry_list_mul (F.args_list_mul_2 _ _) (AutoListH.list___mul___list_int_3 l its.toArray n k t hfit hcap hlong) ⟨e, ?_⟩
  rw [hnew]
  exact ⟨.ref _, _, I.lnew (t' := s.toks) (r.rep k.toNat) (by rw [PyProof.Rows.lm_len_rep_flat, Nat.mul_comm]; exact hz), rfl, q _ I.fresh⟩
def rMulA : R2 := fun x y H Q => rI CMul (fun i j => .int (i * j)) x y H Q ∨ rI CMulW (fun i j => .int (i * j)) x y H Q ∨
  (∃ a j, x = .str (tx a) ∧ y = .int j ∧ -1000000000 ≤ j ∧ j ≤ 1000000000 ∧ a.length * j.toNat ≤ sizeLine ∧ Q (.str (tx (rep a j))) H) ∨ rRepR x y H Q
theorem op_mulA : OpR X (binaryOp .Mult) rMulA := op_mul.or (op_mulW.or (op_mulS.or op_repR))
end
theorem RpAll.rep {K : PySem.W.Frag} {AV : Av} {H : Hp} {ds : List Dat} {xs : List V} (h : RpAll K AV H ds xs) : ∀ n : Nat, RpAll K AV H (List.replicate n ds).flatten (List.replicate n xs).flatten
  | 0 => .nil
  | n + 1 => by
    rw [List.replicate_succ, List.replicate_succ, List.flatten_cons, List.flatten_cons]
    exact h.append (h.rep n)
theorem lr_mul {K : PySem.W.Frag} : LR K rMulA dMul := by
  intro AV H x y dx dy Qd Q trk rx ry h k
  unfold dMul at h
  split at h
  · unfold Rp at rx ry; subst rx ry
    rcases h with ⟨h | h, q⟩
    · exact .inl ⟨_, _, rfl, rfl, h, k _ H _ (.refl H) rp_int q⟩
    · exact .inr (.inl ⟨_, _, rfl, rfl, h, k _ H _ (.refl H) rp_int q⟩)
  · unfold Rp at rx ry; subst rx ry
    obtain ⟨h1, h2, h3, q⟩ := h
    exact .inr (.inr (.inl ⟨_, _, rfl, rfl, h1, h2, by rw [big_eq]; exact h3, k _ H _ (.refl H) rp_str q⟩))
  · unfold Rp at rx ry; subst ry
    obtain ⟨a, xs, rfl, ra, qa⟩ := rx
    obtain ⟨h1, h2, h3, q⟩ := h
    refine .inr (.inr (.inr ⟨a, _, xs, rfl, rfl, ra.2, by omega, by omega, by rw [qa.len, big_eq]; exact h3, fun p hp => ?_⟩))
    exact k _ _ _ (Same.upd_new hp) (rp_newL (fun z => trk p z hp) upd_same ((qa.same (Same.upd_new hp)).rep _)) q
  · exact h.elim
@[simp] def dMod : R2d
  | .int i, .int j, k => 0 < j ∧ k (.int (i % j))
  | _, _, _ => False
theorem lr_mod {K : PySem.W.Frag} : LR K (rI (fun _ j => 0 < j) fun i j => .int (i % j)) dMod := by
  intro AV H x y dx dy Qd Q trk rx ry h k
  unfold dMod at h
  split at h
  · unfold Rp at rx ry; subst rx ry
    exact ⟨_, _, rfl, rfl, h.1, k _ H _ (.refl H) rp_int h.2⟩
  · exact h.elim
@[simp] def dFdiv : R2d
  | .int i, .int j, k => (CDiv i j ∨ CDivW i j) ∧ k (.int (i / j))
  | _, _, _ => False
def rFdivA : R2 := fun x y H Q => rI CDiv (fun i j => .int (i / j)) x y H Q ∨ rI CDivW (fun i j => .int (i / j)) x y H Q
theorem op_fdivA {X : Cx} : OpR X (binaryOp .FloorDiv) rFdivA := op_fdiv.or op_fdivW
theorem lr_fdiv {K : PySem.W.Frag} : LR K rFdivA dFdiv := by
  intro AV H x y dx dy Qd Q trk rx ry h k
  unfold dFdiv at h
  split at h
  · unfold Rp at rx ry; subst rx ry
    rcases h with ⟨h | h, q⟩
    · exact .inl ⟨_, _, rfl, rfl, h, k _ H _ (.refl H) rp_int q⟩
    · exact .inr ⟨_, _, rfl, rfl, h, k _ H _ (.refl H) rp_int q⟩
  · exact h.elim
@[simp] def dPow : R2d
  | .int i, .int j, k => CPow i j ∧ k (.int (i ^ j.toNat))
  | _, _, _ => False
theorem lr_pow {K : PySem.W.Frag} : LR K (rI CPow fun i j => .int (i ^ j.toNat)) dPow := by
  intro AV H x y dx dy Qd Q trk rx ry h k
  unfold dPow at h
  split at h
  · unfold Rp at rx ry; subst rx ry
    exact ⟨_, _, rfl, rfl, h.1, k _ H _ (.refl H) rp_int h.2⟩
  · exact h.elim
@[simp] def dNeg : R1d
  | .int i, k => k (.int (-i))
  | _, _ => False
theorem lu_neg {K : PySem.W.Frag} : LU K (rU fun i => .int (-i)) dNeg := by
  intro AV H x dx Qd Q trk rx h k
  unfold dNeg at h
  split at h
  · unfold Rp at rx; subst rx
    exact ⟨_, rfl, k _ H _ (.refl H) rp_int h⟩
  · exact h.elim

/-! ### comparisons of numbers, texts -/
@[simp] def dCmpI (p : Int → Int → Bool) (q : List Nat → List Nat → Bool) : R2d
  | .int i, .int j, k => k (.bl (p i j))
  | .str i, .str j, k => k (.bl (q i j))
  | _, _, _ => False
def rCmpA (p : Int → Int → Bool) (q : List Nat → List Nat → Bool) : R2 := fun x y H Q => (rI0 fun i j => .bl (p i j)) x y H Q ∨ ∃ i j, x = .str i ∧ y = .str j ∧ Q (.bl (q i.cps.toList j.cps.toList)) H
theorem lr_cmpI {K : PySem.W.Frag} {p : Int → Int → Bool} {q : List Nat → List Nat → Bool} : LR K (rCmpA p q) (dCmpI p q) := by
  intro AV H x y dx dy Qd Q trk rx ry h k
  unfold dCmpI at h
  split at h
  · unfold Rp at rx ry; subst rx ry
    exact .inl ⟨_, _, rfl, rfl, k _ H _ (.refl H) rp_bl h⟩
  · unfold Rp at rx ry; subst rx ry
    exact .inr ⟨_, _, rfl, rfl, k _ H _ (.refl H) rp_bl (by simpa using h)⟩
  · exact h.elim
@[simp] abbrev dLt : R2d := dCmpI (fun i j => decide (i < j)) (fun i j => decide (i < j))
@[simp] abbrev dLe : R2d := dCmpI (fun i j => decide (i ≤ j)) (fun i j => !decide (j < i))
@[simp] abbrev dGt : R2d := dCmpI (fun i j => decide (j < i)) (fun i j => decide (j < i))
@[simp] abbrev dGe : R2d := dCmpI (fun i j => decide (j ≤ i)) (fun i j => !decide (i < j))
section
variable {X : Cx}
theorem op_ltA : OpR X (compareOp .Lt) (rCmpA (fun i j => decide (i < j)) (fun i j => decide (i < j))) := op_lt.or op_lt_str
theorem op_leA : OpR X (compareOp .LtE) (rCmpA (fun i j => decide (i ≤ j)) (fun i j => !decide (j < i))) := op_le.or op_le_str
theorem op_gtA : OpR X (compareOp .Gt) (rCmpA (fun i j => decide (j < i)) (fun i j => decide (j < i))) := op_gt.or op_gt_str
theorem op_geA : OpR X (compareOp .GtE) (rCmpA (fun i j => decide (j ≤ i)) (fun i j => !decide (i < j))) := op_ge.or op_ge_str
end

/-! ### is None -/
def isNone : Dat → Bool
  | .non => true
  | _ => false
theorem isNone_rp {K : PySem.W.Frag} {AV : Av} {H : Hp} : ∀ {d : Dat} {x : V}, Rp K AV H d x → decide (x = .non) = isNone d := by
  intro d x h
  cases d <;> unfold Rp at h <;> first
    | (subst h; rfl)
    | (rcases h with ⟨a, e, _⟩; subst e; rfl)
    | (rcases h with ⟨a, xs, e, _⟩; subst e; rfl)
    | (rcases h with ⟨a, dx, ws, e, _⟩; subst e; rfl)
@[simp] def dIsN : R2d
  | x, .non, k => k (.bl (isNone x))
  | _, _, _ => False
@[simp] def dNotN : R2d
  | x, .non, k => k (.bl (!isNone x))
  | _, _, _ => False
theorem lr_isN {K : PySem.W.Frag} : LR K (fun x y H Q => y = .non ∧ Q (.bl (decide (x = .non))) H) dIsN := by
  intro AV H x y dx dy Qd Q trk rx ry h k
  unfold dIsN at h
  split at h
  · unfold Rp at ry; subst ry
    exact ⟨rfl, k _ H _ (.refl H) (by rw [isNone_rp rx]; exact rp_bl) h⟩
  · exact h.elim
theorem lr_notN {K : PySem.W.Frag} : LR K (fun x y H Q => y = .non ∧ Q (.bl (!decide (x = .non))) H) dNotN := by
  intro AV H x y dx dy Qd Q trk rx ry h k
  unfold dNotN at h
  split at h
  · unfold Rp at ry; subst ry
    exact ⟨rfl, k _ H _ (.refl H) (by rw [isNone_rp rx]; exact rp_bl) h⟩
  · exact h.elim
end Dl

/-! equality, membership, lengths, subscripts, slices, displays, built-in functions -/
namespace Dl
open PySem PySem.Spec PyProof.Rows L2

mutual
/-- as the library's data -/
def Dat.py : Dat → PyData
  | .non => .none
  | .bl b => .bool b
  | .int i => .int i
  | .str l => .str (tx l)
  | .lst xs => .list (pyAll xs)
  | .tup xs => .tuple (pyAll xs)
  | _ => .none
def pyAll : List Dat → List PyData
  | [] => []
  | x :: xs => x.py :: pyAll xs
end
mutual
def Dat.pure : Dat → Bool
  | .non | .bl _ | .int _ | .str _ => true
  | .lst xs => pureAll xs
  | .tup xs => pureAll xs
  | _ => false
def pureAll : List Dat → Bool
  | [] => true
  | x :: xs => x.pure && pureAll xs
end
section
variable {K : PySem.W.Frag} {AV : Av} {H : Hp}
mutual
theorem Rp.dp : ∀ {d : Dat} {v : V}, d.pure = true → Rp K AV H d v → Dp K H v d.py
  | .non, v, _, h => by unfold Rp at h; subst h; unfold Dat.py; exact .non
  | .bl b, v, _, h => by unfold Rp at h; subst h; unfold Dat.py; exact .bl b
  | .int b, v, _, h => by unfold Rp at h; subst h; unfold Dat.py; exact .int b
  | .str b, v, _, h => by unfold Rp at h; subst h; unfold Dat.py; exact .str _
  | .lst xs, v, p, h => by
    unfold Dat.pure at p
    unfold Rp at h
    obtain ⟨a, ys, rfl, r, q⟩ := h
    unfold Dat.py
    exact .lst r.sq (RpAll.dp p q)
  | .tup xs, v, p, h => by
    unfold Dat.pure at p
    unfold Rp at h
    obtain ⟨a, ys, rfl, r, q⟩ := h
    unfold Dat.py
    exact .tup r.sq (RpAll.dp p q)
  | .ty _, _, p, _ => by unfold Dat.pure at p; cases p
  | .ref _, _, p, _ => by unfold Dat.pure at p; cases p
  | .dk _, _, p, _ => by unfold Dat.pure at p; cases p
  | .sq _, _, p, _ => by unfold Dat.pure at p; cases p
  | .obj _ _, _, p, _ => by unfold Dat.pure at p; cases p
theorem RpAll.dp : ∀ {ds : List Dat} {vs : List V}, pureAll ds = true → RpAll K AV H ds vs → DpAll K H vs (pyAll ds)
  | [], _, _, h => by unfold RpAll at h; subst h; unfold pyAll; exact .nil
  | d :: ds, _, p, h => by
    unfold pureAll at p
    rw [Bool.and_eq_true] at p
    unfold RpAll at h
    obtain ⟨v, vs, rfl, r, q⟩ := h
    unfold pyAll
    exact .cons (Rp.dp p.1 r) (RpAll.dp p.2 q)
end
end

/-- == of scalars -/
def scalD : Dat → Dat → Option Bool
  | .int i, .int j => some (decide (i = j))
  | .str a, .str b => some (decide (a = b))
  | .bl a, .bl b => some (decide (a = b))
  | .non, .non => some true
  | .non, .int _ => some false
  | .non, .str _ => some false
  | .non, .bl _ => some false
  | .int _, .non => some false
  | .str _, .non => some false
  | .bl _, .non => some false
  | .int _, .str _ => some false
  | .str _, .int _ => some false
  | .bl _, .str _ => some false
  | .str _, .bl _ => some false
  | _, _ => none
/-- data that == goes into -/
def EqOk (x : Dat) : Prop := x.pure = true ∧ SeqAt.shaped x.py = true
@[simp] def dEq : R2d := fun x y k => match scalD x y with
  | some b => k (.bl b)
  | none => EqOk x ∧ EqOk y ∧ k (.bl (PyData.eqv x.py y.py))
@[simp] def dNe : R2d := fun x y k => match scalD x y with
  | some b => k (.bl (!b))
  | none => EqOk x ∧ EqOk y ∧ k (.bl (!PyData.eqv x.py y.py))
theorem scal_of {K : PySem.W.Frag} {AV : Av} {H : Hp} {x y : Dat} {v u : V} {b : Bool} (h : scalD x y = some b) (rx : Rp K AV H x v) (ry : Rp K AV H y u) : scal v u = true ∧ decide (v = u) = b := by
  unfold scalD at h
  split at h <;> first
    | (cases h; done)
    | (unfold Rp at rx ry; subst rx ry; cases h; refine ⟨rfl, ?_⟩; simp)
    | (unfold Rp at rx ry; subst rx ry; cases h; refine ⟨rfl, ?_⟩; rw [decide_eq_decide]; exact ⟨fun z => tx_inj (V.str.inj z), fun z => by rw [z]⟩)
section
variable {X : Cx}
def rEqA (K : PySem.W.Frag) : R2 := fun x y H Q => rEq x y H Q ∨ rEqD K x y H Q
def rNeA (K : PySem.W.Frag) : R2 := fun x y H Q => rNe x y H Q ∨ rNeD K x y H Q
theorem op_eqA {k : Nat} (hr : Room k X.A) : OpR X (compareOp .Eq) (rEqA X.K) := op_eq.or (op_eqD (by have := hr.un; omega))
theorem op_neA {k : Nat} (hr : Room k X.A) : OpR X (compareOp .NotEq) (rNeA X.K) := op_ne.or (op_neD (by have := hr.un; omega))
end
theorem lr_eq {K : PySem.W.Frag} : LR K (rEqA K) dEq := by
  intro AV H x y dx dy Qd Q trk rx ry h k
  unfold dEq at h
  split at h
  · rename_i b e
    obtain ⟨h1, h2⟩ := scal_of e rx ry
    exact .inl ⟨h1, by rw [h2]; exact k _ H _ (.refl H) rp_bl h⟩
  · obtain ⟨⟨p1, s1⟩, ⟨p2, s2⟩, q⟩ := h
    exact .inr ⟨_, _, rx.dp p1, ry.dp p2, s1, s2, k _ H _ (.refl H) rp_bl q⟩
theorem lr_ne {K : PySem.W.Frag} : LR K (rNeA K) dNe := by
  intro AV H x y dx dy Qd Q trk rx ry h k
  unfold dNe at h
  split at h
  · rename_i b e
    obtain ⟨h1, h2⟩ := scal_of e rx ry
    exact .inl ⟨h1, by rw [h2]; exact k _ H _ (.refl H) rp_bl h⟩
  · obtain ⟨⟨p1, s1⟩, ⟨p2, s2⟩, q⟩ := h
    exact .inr ⟨_, _, rx.dp p1, ry.dp p2, s1, s2, k _ H _ (.refl H) rp_bl q⟩

/-! ### x in y -/
def flatD : Dat → Bool
  | .non | .bl _ | .int _ | .str _ => true
  | _ => false
def eqF : Dat → Dat → Bool
  | .non, .non => true
  | .bl a, .bl b => a == b
  | .bl a, .int b => (if a then 1 else 0) == b
  | .int a, .bl b => a == (if b then 1 else 0)
  | .int a, .int b => a == b
  | .str a, .str b => a == b
  | _, _ => false
def inF (x : Dat) (xs : List Dat) : Bool := xs.any fun y => eqF y x
@[simp] def dIn : R2d
  | .str a, .str b, k => match a with
    | [c] => k (.bl (decide (c ∈ b)))
    | _ => False
  | x, .lst ys, k => flatD x = true ∧ ys.all flatD = true ∧ k (.bl (inF x ys))
  | x, .tup ys, k => flatD x = true ∧ ys.all flatD = true ∧ k (.bl (inF x ys))
  | _, _, _ => False
@[simp] def dNotIn : R2d := fun x y k => dIn x y fun d => match d with
  | .bl b => k (.bl !b)
  | _ => False
section
variable {K : PySem.W.Frag} {AV : Av} {H : Hp}
theorem flat_rp {d : Dat} {v : V} (f : flatD d = true) (h : Rp K AV H d v) : flatV v = true := by
  cases d <;> first
    | (unfold Rp at h; subst h; rfl)
    | exact absurd (show false = true from f) Bool.false_ne_true
theorem beq_tx (a b : List Nat) : (tx a == tx b) = (a == b) := by
  rw [Bool.eq_iff_iff, beq_iff_eq, beq_iff_eq]
  exact ⟨tx_inj, fun z => by rw [z]⟩
theorem eqF_rp {d e : Dat} {v u : V} (f : flatD d = true) (g : flatD e = true) (h : Rp K AV H d v) (h' : Rp K AV H e u) : eqV v u = eqF d e := by
  cases d <;> first
    | exact absurd (show false = true from f) Bool.false_ne_true
    | (cases e <;> first
        | exact absurd (show false = true from g) Bool.false_ne_true
        | (unfold Rp at h h'; subst h h'; first | rfl | exact beq_tx _ _))
theorem inF_rp {d : Dat} {v : V} (f : flatD d = true) (h : Rp K AV H d v) : ∀ {ds : List Dat} {vs : List V}, ds.all flatD = true → RpAll K AV H ds vs → vs.all flatV = true ∧ inV v vs = inF d ds
  | [], _, _, q => by unfold RpAll at q; subst q; exact ⟨rfl, rfl⟩
  | e :: ds, _, g, q => by
    rw [List.all_cons, Bool.and_eq_true] at g
    unfold RpAll at q
    obtain ⟨u, us, rfl, r, q⟩ := q
    obtain ⟨h1, h2⟩ := inF_rp f h g.2 q
    refine ⟨by rw [List.all_cons, flat_rp g.1 r, h1]; rfl, ?_⟩
    unfold inV inF at h2 ⊢
    rw [List.any_cons, List.any_cons, h2, eqF_rp g.1 f r h]
end
def rInA (K : PySem.W.Frag) : R2 := fun x y H Q => (∃ (c : Nat) (z : Str), x = .str ⟨#[c]⟩ ∧ y = .str z ∧ Q (.bl (decide (c ∈ z.cps.toList))) H) ∨ rIn K false x y H Q
def rNotInA (K : PySem.W.Frag) : R2 := fun x y H Q => (∃ (c : Nat) (z : Str), x = .str ⟨#[c]⟩ ∧ y = .str z ∧ Q (.bl (!decide (c ∈ z.cps.toList))) H) ∨ rIn K true x y H Q
theorem op_inA {X : Cx} : OpR X (compareOp .In) (rInA X.K) := op_in_sign.or op_in_seq
theorem op_notInA {X : Cx} : OpR X (compareOp .NotIn) (rNotInA X.K) := op_notIn_sign.or op_notIn_seq
theorem dIn_cases {x y : Dat} {k : Dat → Prop} (h : dIn x y k) : (∃ c b, x = .str [c] ∧ y = .str b ∧ k (.bl (decide (c ∈ b)))) ∨
    ∃ ys, (y = .lst ys ∨ y = .tup ys) ∧ flatD x = true ∧ ys.all flatD = true ∧ k (.bl (inF x ys)) := by
  cases y with
  | str b =>
    cases x with
    | str a =>
      cases a with
      | nil => exact h.elim
      | cons c r =>
        cases r with
        | nil => exact .inl ⟨c, b, rfl, rfl, h⟩
        | cons _ _ => exact h.elim
    | _ => exact h.elim
  | lst ys => cases x <;> exact .inr ⟨ys, .inl rfl, h⟩
  | tup ys => cases x <;> exact .inr ⟨ys, .inr rfl, h⟩
  | _ => cases x <;> exact h.elim
theorem lr_in {K : PySem.W.Frag} : LR K (rInA K) dIn := by
  intro AV H x y dx dy Qd Q trk rx ry h k
  rcases dIn_cases h with ⟨c, b, rfl, rfl, q⟩ | ⟨ys, e, f, g, q⟩
  · unfold Rp at rx ry; subst rx ry
    exact .inl ⟨c, tx b, rfl, rfl, k _ H _ (.refl H) rp_bl (by simpa using q)⟩
  · rcases e with rfl | rfl
    · unfold Rp at ry
      obtain ⟨a, xs, rfl, r, qq⟩ := ry
      obtain ⟨h1, h2⟩ := inF_rp f rx g qq
      exact .inr ⟨a, xs, rfl, .inl r.sq, flat_rp f rx, h1, by rw [if_neg (by simp), h2]; exact k _ H _ (.refl H) rp_bl q⟩
    · unfold Rp at ry
      obtain ⟨a, xs, rfl, r, qq⟩ := ry
      obtain ⟨h1, h2⟩ := inF_rp f rx g qq
      exact .inr ⟨a, xs, rfl, .inr r.sq, flat_rp f rx, h1, by rw [if_neg (by simp), h2]; exact k _ H _ (.refl H) rp_bl q⟩
theorem lr_notIn {K : PySem.W.Frag} : LR K (rNotInA K) dNotIn := by
  intro AV H x y dx dy Qd Q trk rx ry h k
  rcases dIn_cases h with ⟨c, b, rfl, rfl, q⟩ | ⟨ys, e, f, g, q⟩
  · unfold Rp at rx ry; subst rx ry
    exact .inl ⟨c, tx b, rfl, rfl, k _ H _ (.refl H) rp_bl (by simpa using q)⟩
  · rcases e with rfl | rfl
    · unfold Rp at ry
      obtain ⟨a, xs, rfl, r, qq⟩ := ry
      obtain ⟨h1, h2⟩ := inF_rp f rx g qq
      exact .inr ⟨a, xs, rfl, .inl r.sq, flat_rp f rx, h1, by rw [if_pos rfl, h2]; exact k _ H _ (.refl H) rp_bl q⟩
    · unfold Rp at ry
      obtain ⟨a, xs, rfl, r, qq⟩ := ry
      obtain ⟨h1, h2⟩ := inF_rp f rx g qq
      exact .inr ⟨a, xs, rfl, .inr r.sq, flat_rp f rx, h1, by rw [if_pos rfl, h2]; exact k _ H _ (.refl H) rp_bl q⟩

/-! ### xs[i] -/
@[simp] def dIx : R2d
  | .lst xs, .int i, k => ∃ d, atI xs i = some d ∧ k d
  | .tup xs, .int i, k => ∃ d, atI xs i = some d ∧ k d
  | .str l, .int i, k => l.length ≤ big ∧ ∃ c, atI l i = some c ∧ k (.str [c])
  | _, _, _ => False
theorem atI_rp {K : PySem.W.Frag} {AV : Av} {H : Hp} {ds : List Dat} {vs : List V} {i : Int} {d : Dat} (h : RpAll K AV H ds vs) (e : atI ds i = some d) : ∃ v, atI vs i = some v ∧ Rp K AV H d v := by
  unfold atI at e ⊢
  rw [h.len]
  cases q : ixN ds.length i with
  | none => rw [q] at e; cases e
  | some j =>
    rw [q] at e
    exact RpAll.get h e
theorem lr_ix {K : PySem.W.Frag} : LR K (rIx K) dIx := by
  intro AV H x y dx dy Qd Q trk rx ry h k
  unfold dIx at h
  split at h
  · unfold Rp at rx ry; subst ry
    obtain ⟨a, xs, rfl, r, q⟩ := rx
    obtain ⟨d, e, hk⟩ := h
    obtain ⟨v, h1, h2⟩ := atI_rp q e
    exact .inl ⟨a, xs, _, v, rfl, rfl, r.sq, h1, k _ H _ (.refl H) h2 hk⟩
  · unfold Rp at rx ry; subst ry
    obtain ⟨a, xs, rfl, r, q⟩ := rx
    obtain ⟨d, e, hk⟩ := h
    obtain ⟨v, h1, h2⟩ := atI_rp q e
    exact .inr (.inl ⟨a, xs, _, v, rfl, rfl, r.sq, h1, k _ H _ (.refl H) h2 hk⟩)
  · unfold Rp at rx ry; subst rx ry
    obtain ⟨hl, c, e, hk⟩ := h
    exact .inr (.inr ⟨_, _, c, rfl, rfl, by rw [tx_length, big_eq]; exact hl, by simpa using e, k _ H _ (.refl H) (rp_strOf (l := [c]) rfl) hk⟩)
  · exact h.elim
section
variable {S : Type} {D : DX S} {X : Cx} {a b e : Expr} {es : List Expr} {ta tb te : TE} {da db de : TD S} {tA : TA} {dA : TDA S} {pos : Pos}
theorem de_ix (ha : DE X D a ta da) (hb : DE X D b tb db) (hs : PlainIx b := by exact fun _ _ => rfl) : DE X D (.Subscript a b pos) (tOp (rIx X.K) ta tb) (dOp dIx da db) := ⟨pe_ix ix_seq ha.pe hb.pe hs, le_op lr_ix ha.le hb.le⟩

/-! ### (a, b), [a, b] -/
@[simp] def dTup (t : TDA S) : TD S := fun ρ s Q => t ρ s fun xs s1 => xs.length ≤ big ∧ Q (.tup xs) s1
@[simp] def dLst (t : TDA S) : TD S := fun ρ s Q => t ρ s fun xs s1 => xs.length ≤ big ∧ Q (.lst xs) s1
theorem le_tup {K : PySem.W.Frag} (h : LA D K tA dA) : LE D K (tTup tA) (dTup dA) := fun AV σ H ρ s Qd Q A hd k => by
  refine h AV σ H ρ s _ _ A hd fun vs H1 ds s1 e1 i1 rx q1 => ?_
  have A1 := A.go e1 i1
  refine ⟨by rw [rx.len, big_eq]; exact q1.1, fun p hp => ?_⟩
  exact k _ _ _ s1 (e1.trans (.of (Same.upd_new hp))) (A1.same (Same.upd_new hp)).inv (rp_newT (notAV A1 hp) upd_same (rx.same (Same.upd_new hp))) q1.2
theorem lf_lst {K : PySem.W.Frag} (h : LA D K tA dA) : LF D K (tLst tA) (fun ρ s Q => dA ρ s fun xs s1 => xs.length ≤ big ∧ Q xs s1) := fun AV σ H ρ s Qd Q A hd k => by
  refine h AV σ H ρ s _ _ A hd fun vs H1 ds s1 e1 i1 rx q1 => ?_
  have A1 := A.go e1 i1
  refine ⟨by rw [rx.len, big_eq]; exact q1.1, fun p hp => ?_⟩
  have sm : Same H1 (upd H1 p (.lst vs)) := Same.upd_new hp
  refine k p _ ds vs s1 ?_ (e1.trans (.of sm)) (D.C.ext A1.inv hp sm) upd_same (RpAll.same (RpAll.more hp ds rx) sm) q1.2
  cases z : H p with
  | none => rfl
  | some o =>
    exfalso
    by_cases hv : p ∈ D.C.vs
    · exact D.C.trk i1 hv hp
    · rw [e1 p o hv z] at hp; cases hp
/-- a new list, as a datum -/
theorem LF.le {K : PySem.W.Frag} {dF : TDA S} (h : LF D K te dF) : LE D K te (fun ρ s Q => dF ρ s fun xs s1 => Q (.lst xs) s1) := fun AV σ H ρ s Qd Q A hd k => by
  refine h AV σ H ρ s _ _ A hd fun p H' ds ys s' hp e i hq r q => ?_
  exact k _ H' _ s' e (D.C.anti (fun a z => .inl z) i) (rp_newL (notAV A hp) hq (RpAll.keeps (fun a o n z => z) (fun a z => .inl z) ds r)) q
theorem de_tup {x1 : Nat} (h : DA X D es tA dA) : DE X D (.Tuple es x1 pos) (tTup tA) (dTup dA) := ⟨pe_tup h.pe, le_tup h.le⟩
theorem df_lst (h : DA X D es tA dA) : DF X D (.List es pos) (tLst tA) (fun ρ s Q => dA ρ s fun xs s1 => xs.length ≤ big ∧ Q xs s1) := ⟨pe_lst h.pe, lf_lst h.le⟩
theorem DF.toDE {dF : TDA S} (h : DF X D e te dF) : DE X D e te (fun ρ s Q => dF ρ s fun xs s1 => Q (.lst xs) s1) := ⟨h.pe, h.le.le⟩
end
end Dl

/-! built-in functions, methods, slices -/
namespace Dl
open PySem PySem.Spec PyProof.Rows L2

/-! ### len, int, str, max, min, abs, sum, list, tuple, any, all, isinstance -/
@[simp] def dLen : RAd
  | [.str l], k => l.length ≤ big ∧ k (.int (l.length : Nat))
  | [.lst l], k => k (.int (l.length : Nat))
  | [.tup l], k => k (.int (l.length : Nat))
  | [.sq l], k => k (.int (l.length : Nat))
  | _, _ => False
def rLenA (K : PySem.W.Frag) : List V → Hp → VK → Prop := fun xs H Q => ∃ x n, xs = [x] ∧ LenV K x H n ∧ Q (.int n) H
theorem RpAll.one {K : PySem.W.Frag} {AV : Av} {H : Hp} {d : Dat} {xs : List V} (h : RpAll K AV H [d] xs) : ∃ v, xs = [v] ∧ Rp K AV H d v := by
  unfold RpAll at h
  obtain ⟨v, vs, rfl, r, q⟩ := h
  unfold RpAll at q
  subst q
  exact ⟨v, rfl, r⟩
theorem RpAll.two {K : PySem.W.Frag} {AV : Av} {H : Hp} {d e : Dat} {xs : List V} (h : RpAll K AV H [d, e] xs) : ∃ v u, xs = [v, u] ∧ Rp K AV H d v ∧ Rp K AV H e u := by
  unfold RpAll at h
  obtain ⟨v, vs, rfl, r, q⟩ := h
  obtain ⟨u, rfl, r2⟩ := RpAll.one q
  exact ⟨v, u, rfl, r, r2⟩
theorem sq_of_or {K : PySem.W.Frag} {AV : Av} {H : Hp} {a : Addr} {xs : List V} (h : (¬ AV a ∧ Rd H a (.lst xs)) ∨ ∀ H', SqL K H' a xs) : SqL K H a xs := h.elim (fun z => .inl z.2) fun z => z H
theorem lc_len {K : PySem.W.Frag} : LC K (rLenA K) dLen := by
  intro AV H xs ds Qd Q trk rs h k
  unfold dLen at h
  split at h
  · obtain ⟨v, rfl, r⟩ := rs.one
    unfold Rp at r; subst r
    refine ⟨_, _, rfl, ⟨by rw [tx_length, big_eq]; exact h.1, rfl⟩, ?_⟩
    rw [tx_length]
    exact k _ H _ (.refl H) rp_int h.2
  · obtain ⟨v, rfl, r⟩ := rs.one
    unfold Rp at r
    obtain ⟨a, ys, rfl, r, q⟩ := r
    refine ⟨_, _, rfl, .inl ⟨ys, r.sq, rfl⟩, ?_⟩
    rw [q.len]
    exact k _ H _ (.refl H) rp_int h
  · obtain ⟨v, rfl, r⟩ := rs.one
    unfold Rp at r
    obtain ⟨a, ys, rfl, r, q⟩ := r
    refine ⟨_, _, rfl, .inr ⟨ys, r.sq, rfl⟩, ?_⟩
    rw [q.len]
    exact k _ H _ (.refl H) rp_int h
  · obtain ⟨v, rfl, r⟩ := rs.one
    unfold Rp at r
    obtain ⟨a, rfl, r⟩ := r
    refine ⟨_, _, rfl, .inl ⟨_, sq_of_or r, rfl⟩, ?_⟩
    rw [List.length_map]
    exact k _ H _ (.refl H) rp_int h
  · exact h.elim
@[simp] def dInt : RAd
  | [.int i], k => k (.int i)
  | [.bl b], k => k (.int (if b then 1 else 0))
  | [.str l], k => ∃ n, PySem.intText? (tx l) = some n ∧ l.length ≤ 640 ∧ k (.int n)
  | _, _ => False
def rIntA : List V → Hp → VK → Prop := fun xs H Q => ((∃ i, xs = [.int i] ∧ Q (.int i) H) ∨ ∃ k, xs = [.bl k] ∧ Q (.int (if k then 1 else 0)) H) ∨ ∃ a n, xs = [.str a] ∧ PySem.intText? a = some n ∧ a.length ≤ 640 ∧ Q (.int n) H
theorem call_intA {X : Cx} : CallR X (.type "int") rIntA := call_int1.or call_int_str
theorem lc_int {K : PySem.W.Frag} : LC K rIntA dInt := by
  intro AV H xs ds Qd Q trk rs h k
  unfold dInt at h
  split at h
  · obtain ⟨v, rfl, r⟩ := rs.one
    unfold Rp at r; subst r
    exact .inl (.inl ⟨_, rfl, k _ H _ (.refl H) rp_int h⟩)
  · obtain ⟨v, rfl, r⟩ := rs.one
    unfold Rp at r; subst r
    exact .inl (.inr ⟨_, rfl, k _ H _ (.refl H) rp_int h⟩)
  · obtain ⟨v, rfl, r⟩ := rs.one
    unfold Rp at r; subst r
    obtain ⟨n, h1, h2, h3⟩ := h
    exact .inr ⟨_, n, rfl, h1, by rw [tx_length]; exact h2, k _ H _ (.refl H) rp_int h3⟩
  · exact h.elim
/-- a number's signs -/
def numL (i : Int) : List Nat := (toString i : Str).cps.toList
@[simp] def dStr : RAd
  | [.int i], k => i.natAbs.log2 < 1920 ∧ k (.str (numL i))
  | _, _ => False
theorem lc_str {K : PySem.W.Frag} : LC K (fun xs H Q => ∃ i, xs = [.int i] ∧ i.natAbs.log2 < 1920 ∧ Q (.str (toString i)) H) dStr := by
  intro AV H xs ds Qd Q trk rs h k
  unfold dStr at h
  split at h
  · obtain ⟨v, rfl, r⟩ := rs.one
    unfold Rp at r; subst r
    exact ⟨_, rfl, h.1, k _ H _ (.refl H) (rp_strOf rfl) h.2⟩
  · exact h.elim
@[simp] def d2I (f : Int → Int → Int) : RAd
  | [.int i, .int j], k => k (.int (f i j))
  | _, _ => False
theorem lc_2I {K : PySem.W.Frag} {f : Int → Int → Int} : LC K (fun xs H Q => ∃ i j, xs = [.int i, .int j] ∧ Q (.int (f i j)) H) (d2I f) := by
  intro AV H xs ds Qd Q trk rs h k
  unfold d2I at h
  split at h
  · obtain ⟨v, u, rfl, r, r2⟩ := rs.two
    unfold Rp at r r2; subst r r2
    exact ⟨_, _, rfl, k _ H _ (.refl H) rp_int h⟩
  · exact h.elim
@[simp] abbrev dMax2 : RAd := d2I fun i j => if j > i then j else i
@[simp] abbrev dMin2 : RAd := d2I fun i j => if j < i then j else i
def ints? : List Dat → Option (List Int)
  | [] => some []
  | .int i :: r => (ints? r).map (i :: ·)
  | _ :: _ => none
theorem ints_rp {K : PySem.W.Frag} {AV : Av} {H : Hp} : ∀ {ds : List Dat} {vs : List V} {ns : List Int}, ints? ds = some ns → RpAll K AV H ds vs → vs = ns.map V.int
  | [], _, _, e, h => by
    unfold RpAll at h; subst h
    unfold ints? at e; cases e; rfl
  | .int i :: r, _, ns, e, h => by
    unfold RpAll at h
    obtain ⟨v, vs, rfl, rv, q⟩ := h
    unfold Rp at rv; subst rv
    unfold ints? at e
    cases z : ints? r with
    | none => rw [z] at e; cases e
    | some ms =>
      rw [z] at e
      cases e
      rw [ints_rp z q]; rfl
  | .non :: _, _, _, e, _ => by cases e
  | .bl _ :: _, _, _, e, _ => by cases e
  | .str _ :: _, _, _, e, _ => by cases e
  | .ty _ :: _, _, _, e, _ => by cases e
  | .ref _ :: _, _, _, e, _ => by cases e
  | .lst _ :: _, _, _, e, _ => by cases e
  | .tup _ :: _, _, _, e, _ => by cases e
  | .dk _ :: _, _, _, e, _ => by cases e
  | .sq _ :: _, _, _, e, _ => by cases e
  | .obj _ _ :: _, _, _, e, _ => by cases e
theorem ints_map (ns : List Int) : ints? (ns.map Dat.int) = some ns := by
  induction ns with
  | nil => rfl
  | cons n r ih => rw [List.map_cons]; unfold ints?; rw [ih]; rfl
@[simp] def dSum : RAd
  | [.lst xs], k => ∃ ns, ints? xs = some ns ∧ k (.int ns.sum)
  | _, _ => False
theorem lc_sum {K : PySem.W.Frag} : LC K (rSum K) dSum := by
  intro AV H xs ds Qd Q trk rs h k
  unfold dSum at h
  split at h
  · obtain ⟨v, rfl, r⟩ := rs.one
    unfold Rp at r
    obtain ⟨a, ys, rfl, r, q⟩ := r
    obtain ⟨ns, e, hk⟩ := h
    have := ints_rp e q
    subst this
    exact ⟨a, ns, rfl, r.sq, k _ H _ (.refl H) rp_int hk⟩
  · exact h.elim
def bools? : List Dat → Option (List Bool)
  | [] => some []
  | .bl i :: r => (bools? r).map (i :: ·)
  | _ :: _ => none
theorem bools_rp {K : PySem.W.Frag} {AV : Av} {H : Hp} : ∀ {ds : List Dat} {vs : List V} {ns : List Bool}, bools? ds = some ns → RpAll K AV H ds vs → vs = ns.map V.bl
  | [], _, _, e, h => by
    unfold RpAll at h; subst h
    unfold bools? at e; cases e; rfl
  | .bl i :: r, _, ns, e, h => by
    unfold RpAll at h
    obtain ⟨v, vs, rfl, rv, q⟩ := h
    unfold Rp at rv; subst rv
    unfold bools? at e
    cases z : bools? r with
    | none => rw [z] at e; cases e
    | some ms =>
      rw [z] at e
      cases e
      rw [bools_rp z q]; rfl
  | .non :: _, _, _, e, _ => by cases e
  | .int _ :: _, _, _, e, _ => by cases e
  | .str _ :: _, _, _, e, _ => by cases e
  | .ty _ :: _, _, _, e, _ => by cases e
  | .ref _ :: _, _, _, e, _ => by cases e
  | .lst _ :: _, _, _, e, _ => by cases e
  | .tup _ :: _, _, _, e, _ => by cases e
  | .dk _ :: _, _, _, e, _ => by cases e
  | .sq _ :: _, _, _, e, _ => by cases e
  | .obj _ _ :: _, _, _, e, _ => by cases e
theorem bools_map (ns : List Bool) : bools? (ns.map Dat.bl) = some ns := by
  induction ns with
  | nil => rfl
  | cons n r ih => rw [List.map_cons]; unfold bools?; rw [ih]; rfl
@[simp] def dBools (f : List Bool → Bool) : RAd
  | [.lst xs], k => ∃ ns, bools? xs = some ns ∧ k (.bl (f ns))
  | _, _ => False
theorem lc_bools {K : PySem.W.Frag} {f : List Bool → Bool} : LC K (fun vs H Q => ∃ (a : Addr) (bs : List Bool), vs = [V.ref a] ∧ SqL K H a (bs.map V.bl) ∧ Q (.bl (f bs)) H) (dBools f) := by
  intro AV H xs ds Qd Q trk rs h k
  unfold dBools at h
  split at h
  · obtain ⟨v, rfl, r⟩ := rs.one
    unfold Rp at r
    obtain ⟨a, ys, rfl, r, q⟩ := r
    obtain ⟨ns, e, hk⟩ := h
    have := bools_rp e q
    subst this
    exact ⟨a, ns, rfl, r.sq, k _ H _ (.refl H) rp_bl hk⟩
  · exact h.elim
@[simp] abbrev dAll : RAd := dBools fun bs => bs.all id
@[simp] abbrev dAny : RAd := dBools fun bs => bs.any id

/-- its type's name -/
def Dat.kind : Dat → Option String
  | .non => some "NoneType"
  | .bl _ => some "bool"
  | .int _ => some "int"
  | .str _ => some "str"
  | .lst _ => some "list"
  | .tup _ => some "tuple"
  | .dk _ => some "dict"
  | _ => none
theorem kind_rp {K : PySem.W.Frag} {AV : Av} {H : Hp} {d : Dat} {v : V} {T : String} (e : d.kind = some T) (h : Rp K AV H d v) : TyX K H v (.type T) := by
  cases d <;> unfold Dat.kind at e <;> first
    | (cases e; done)
    | (cases e; unfold Rp at h; subst h; first | exact .base .non | exact .base (.bl _) | exact .base (.int _) | exact .base (.str _))
    | skip
  · cases e
    unfold Rp at h
    obtain ⟨a, xs, rfl, ⟨_, r⟩, _⟩ := h
    rcases r with r | ⟨o, r⟩
    · exact .base (.lst r)
    · exact .base (.frz r)
  · cases e
    unfold Rp at h
    obtain ⟨a, xs, rfl, r, _⟩ := h
    rcases r with ⟨_, r | ⟨o, r⟩⟩ | r
    · exact .base (.tup r)
    · exact .fTuple r
    · rcases r (fun _ => none) with z | ⟨o, its, n, h1, h2, _⟩
      · exact absurd z (by rintro (z | ⟨o, z⟩) <;> cases z)
      · exact .kTuple h1 h2
  · cases e
    unfold Rp at h
    obtain ⟨a, xs, rfl, _, r | ⟨o, r⟩, _⟩ := h
    · exact .base (.dK r)
    · exact .fDict r
@[simp] def dIsi : RAd
  | [x, .ty T], k => ∃ n b, x.kind = some n ∧ kitB n T = some b ∧ k (.bl b)
  | _, _ => False
theorem lc_isi {K : PySem.W.Frag} : LC K (rIsi K) dIsi := by
  intro AV H xs ds Qd Q trk rs h k
  unfold dIsi at h
  split at h
  · obtain ⟨v, u, rfl, r, r2⟩ := rs.two
    unfold Rp at r2; subst r2
    obtain ⟨n, b, h1, h2, h3⟩ := h
    exact ⟨v, _, _, _, b, rfl, .ty _, kind_rp h1 r, kit_ty h2, k _ H _ (.refl H) rp_bl h3⟩
  · exact h.elim

/-! ### calls by name -/
section
variable {S : Type} {D : DX S} {X : Cx} {a b e o : Expr} {es : List Expr} {ta tb te to : TE} {da db ed od : TD S} {tA : TA} {dA : TDA S} {pos p apos : Pos} {x name : Str} {id T : String} {r : List V → Hp → VK → Prop} {f : RAd}
theorem de_callB (hc : CallR X (.builtin id) r) (lc : LC X.K r f) (hm : X.mg x = none) (hv : bootBuiltins x = some (.builtin id)) (ha : DA X D (e :: es) tA dA) (hg : Gl X x := by rfl) (hn : x ≠ "__name__" := by decide) (hdb : (x == ("__debug__" : Str)) = false := by decide)
    (he : starEach (e :: es) X.env = (false, eval e X.env) :: starEach es X.env := by rfl) (hpl : (backTo pos (starEach es X.env)).any (·.1) = false := by rfl) : DE X D (.Call (.Name x p) (e :: es) [] pos) (tCB r tA) (dAp f dA) :=
  ⟨pe_callB hc hg hm hv ha.pe hn hdb he hpl, le_ap lc ha.le⟩
theorem de_callTy (hc : CallR X (.type T) r) (lc : LC X.K r f) (hm : X.mg x = none) (hv : bootBuiltins x = some (.type T)) (ha : DA X D (e :: es) tA dA) (hg : Gl X x := by rfl) (hn : x ≠ "__name__" := by decide) (hdb : (x == ("__debug__" : Str)) = false := by decide)
    (he : starEach (e :: es) X.env = (false, eval e X.env) :: starEach es X.env := by rfl) (hpl : (backTo pos (starEach es X.env)).any (·.1) = false := by rfl) : DE X D (.Call (.Name x p) (e :: es) [] pos) (tCB r tA) (dAp f dA) :=
  ⟨pe_callTy hc hg hm hv ha.pe hn hdb he hpl, le_ap lc ha.le⟩

/-! ### methods -/
def tyD (T : String) : Dat → Prop
  | .str _ => T = "str"
  | .lst _ => T = "list"
  | .int _ => T = "int"
  | _ => False
theorem ty_rp {K : PySem.W.Frag} {AV : Av} {H : Hp} {d : Dat} {v : V} (h : tyD T d) (r : Rp K AV H d v) : tyV K T v H := by
  unfold tyD at h
  split at h
  · unfold Rp at r; subst r; exact h
  · unfold Rp at r
    obtain ⟨a, xs, rfl, r, _⟩ := r
    exact .inl ⟨h, xs, r.sq⟩
  · unfold Rp at r; subst r; exact h
  · exact h.elim
def LM (K : PySem.W.Frag) (r : V → List V → Hp → VK → Prop) (f : Dat → RAd) : Prop := ∀ AV H x xs dx ds (Qd : Dat → Prop) (Q : VK), (∀ a, AV a → H a ≠ none) → Rp K AV H dx x → RpAll K AV H ds xs → f dx ds Qd →
  (∀ v H' d, Same H H' → Rp K AV H' d v → Qd d → Q v H') → r x xs H Q
@[simp] def dBM (T : String) (f : Dat → RAd) (to : TD S) (tA : TDA S) : TD S := fun ρ s Q => to ρ s fun x s1 => tyD T x ∧ tA ρ s1 fun xs s2 => f x xs fun z => Q z s2
variable {rm : V → List V → Hp → VK → Prop} {fm : Dat → RAd}
theorem le_bm {K : PySem.W.Frag} (lm : LM K rm fm) (ho : LE D K to od) (ha : LA D K tA dA) : LE D K (tBM K T rm to tA) (dBM T fm od dA) := fun AV σ H ρ s Qd Q A h k => by
  refine ho AV σ H ρ s _ _ A h fun x H1 dx s1 e1 i1 rx q1 => ?_
  have A1 := A.go e1 i1
  refine ⟨ty_rp q1.1 rx, ?_⟩
  refine ha AV σ H1 ρ s1 _ _ A1 q1.2 fun xs H2 ds s2 e2 i2 rs q2 => ?_
  have A2 := A1.go e2 i2
  refine lm AV H2 x xs dx ds _ _ A2.trk (Rp.keeps (A1.keeps e2) (fun _ z => z) dx rx) rs q2 fun v H' d sm rd q => ?_
  exact k v H' d s2 ((e1.trans e2).trans (.of sm)) (A2.same sm).inv rd q
theorem de_bm (pa : PlainAttrs T) (slot : PySem.Slot T name id) (hty : typeOf (.builtin id) = pure (.type "method_descriptor")) (hm : MtR X id rm) (lm : LM X.K rm fm) (ho : DE X D o to od) (ha : DA X D (e :: es) tA dA)
    (hbase : attributeBase o name X.env (eval o X.env) = eval o X.env := by rfl)
    (hfew : ((backTo pos (starEach (e :: es) X.env)).all (fun x => !x.1) && (backToKw pos (keywordEach [] X.env)).all (fun x => x.1.isSome)
      && decide ((e :: es).length + ([] : List Keyword).length + (if ([] : List Keyword).isEmpty then 0 else 1) < 30)) = true := by rfl)
    (hline : (apos.endLine == pos.line) = true := by rfl) (hs : starEach (e :: es) X.env = (false, eval e X.env) :: starEach es X.env := by rfl) (hplain : (backTo pos (starEach es X.env)).any (·.1) = false := by rfl) :
    DE X D (.Call (.Attribute o name apos) (e :: es) [] pos) (tBM X.K T rm to tA) (dBM T fm od dA) :=
  ⟨pe_bm pa slot hty hm ho.pe ha.pe hbase hfew hline hs hplain, le_bm lm ho.le ha.le⟩
@[simp] def dM0 (f : Dat → RAd) (to : TD S) : TD S := fun ρ s Q => to ρ s fun x s1 => tyD "str" x ∧ f x [] fun z => Q z s1
@[simp] def dM1 (f : Dat → RAd) (to te : TD S) : TD S := fun ρ s Q => to ρ s fun x s1 => tyD "str" x ∧ te ρ s1 fun y s2 => f x [y] fun z => Q z s2
theorem str_rp {K : PySem.W.Frag} {AV : Av} {H : Hp} {d : Dat} {v : V} (h : tyD "str" d) (r : Rp K AV H d v) : ∃ a, v = .str a := by
  cases d with
  | str l => unfold Rp at r; exact ⟨_, r⟩
  | lst l => exact absurd (show "str" = "list" from h) (by decide)
  | int l => exact absurd (show "str" = "int" from h) (by decide)
  | _ => exact (show False from h).elim
theorem de_m1 (slot : PySem.Slot "str" name id) (ty : typeOf (.builtin id) = pure (.type "method_descriptor")) (rule : MtR X id rm) (lm : LM X.K rm fm) (ho : DE X D o to od) (he : DE X D e te ed)
    (hs : starEach [e] X.env = [(false, eval e X.env)] := by rfl) (hbase : attributeBase o name X.env (eval o X.env) = eval o X.env := by rfl) (hline : (apos.endLine == pos.line) = true := by rfl) :
    DE X D (.Call (.Attribute o name apos) [e] [] pos) (tM1 rm to te) (dM1 fm od ed) := ⟨pe_m1 slot ty rule ho.pe he.pe hs hbase hline, fun AV σ H ρ s Qd Q A h k => by
  refine ho.le AV σ H ρ s _ _ A h fun x H1 dx s1 e1 i1 rx q1 => ?_
  have A1 := A.go e1 i1
  refine ⟨str_rp q1.1 rx, ?_⟩
  refine he.le AV σ H1 ρ s1 _ _ A1 q1.2 fun y H2 dy s2 e2 i2 ry q2 => ?_
  have A2 := A1.go e2 i2
  refine lm AV H2 x [y] dx [dy] _ _ A2.trk (Rp.keeps (A1.keeps e2) (fun _ z => z) dx rx) (.cons ry .nil) q2 fun v H' d sm rd q => ?_
  exact k v H' d s2 ((e1.trans e2).trans (.of sm)) (A2.same sm).inv rd q⟩
end

/-! ### sep.join(xs) -/
def strs? : List Dat → Option (List (List Nat))
  | [] => some []
  | .str i :: r => (strs? r).map (i :: ·)
  | _ :: _ => none
theorem strs_rp {K : PySem.W.Frag} {AV : Av} {H : Hp} : ∀ {ds : List Dat} {vs : List V} {ns : List (List Nat)}, strs? ds = some ns → RpAll K AV H ds vs → vs = (ns.map tx).map V.str
  | [], _, _, e, h => by
    unfold RpAll at h; subst h
    unfold strs? at e; cases e; rfl
  | .str i :: r, _, ns, e, h => by
    unfold RpAll at h
    obtain ⟨v, vs, rfl, rv, q⟩ := h
    unfold Rp at rv; subst rv
    unfold strs? at e
    cases z : strs? r with
    | none => rw [z] at e; cases e
    | some ms =>
      rw [z] at e
      cases e
      rw [strs_rp z q]; rfl
  | .non :: _, _, _, e, _ => by cases e
  | .int _ :: _, _, _, e, _ => by cases e
  | .bl _ :: _, _, _, e, _ => by cases e
  | .ty _ :: _, _, _, e, _ => by cases e
  | .ref _ :: _, _, _, e, _ => by cases e
  | .lst _ :: _, _, _, e, _ => by cases e
  | .tup _ :: _, _, _, e, _ => by cases e
  | .dk _ :: _, _, _, e, _ => by cases e
  | .sq _ :: _, _, _, e, _ => by cases e
  | .obj _ _ :: _, _, _, e, _ => by cases e
theorem strs_map (ns : List (List Nat)) : strs? (ns.map Dat.str) = some ns := by
  induction ns with
  | nil => rfl
  | cons n r ih => rw [List.map_cons]; unfold strs?; rw [ih]; rfl
theorem rp_strs {K : PySem.W.Frag} {AV : Av} {H : Hp} : ∀ ls : List (List Nat), RpAll K AV H (ls.map Dat.str) ((ls.map tx).map V.str)
  | [] => .nil
  | l :: ls => .cons rp_str (rp_strs ls)
/-- texts with a text between -/
def joinL (a : List Nat) : List (List Nat) → List Nat
  | [] => []
  | [x] => x
  | x :: r => x ++ a ++ joinL a r
theorem sjoin_tx (a : List Nat) : ∀ ls : List (List Nat), Str.join (tx a) (ls.map tx) = tx (joinL a ls)
  | [] => rfl
  | [x] => rfl
  | x :: y :: r => by
    show tx x ++ tx a ++ Str.join (tx a) ((y :: r).map tx) = tx (x ++ a ++ joinL a (y :: r))
    rw [sjoin_tx a (y :: r), tx_append, tx_append]
theorem join_tx (a : List Nat) (ls : List (List Nat)) : Txt.join (tx a) (ls.map tx) = tx (joinL a ls) :=
  (PySem.StrLaws.glued_eq_join (tx a) (ls.map tx)).trans (sjoin_tx a ls)
theorem joinL_nil : ∀ ls : List (List Nat), joinL [] ls = ls.flatten
  | [] => rfl
  | [x] => by simp [joinL]
  | x :: y :: r => by
    show x ++ [] ++ joinL [] (y :: r) = _
    rw [joinL_nil (y :: r)]; simp
@[simp] def dJoin : Dat → RAd
  | .str a, [.lst xs], k => ∃ ls, strs? xs = some ls ∧ (ls.map (·.length)).sum + ls.length * a.length ≤ big ∧ k (.str (joinL a ls))
  | _, _, _ => False
theorem lm_join {K : PySem.W.Frag} : LM K (fun x xs H Q => ∃ a p, ∃ ys : List Str, x = .str a ∧ xs = [.ref p] ∧ (SqL K H p (ys.map V.str) ∨ SqT K H p (ys.map V.str)) ∧
    (ys.map (·.length)).sum + ys.length * a.length ≤ 16777216 ∧ Q (.str (Txt.join a ys)) H) dJoin := by
  intro AV H x xs dx ds Qd Q trk rx rs h k
  unfold dJoin at h
  split at h
  · obtain ⟨v, rfl, r⟩ := rs.one
    unfold Rp at r rx; subst rx
    obtain ⟨a, ys, rfl, r, q⟩ := r
    obtain ⟨ls, e, hz, hk⟩ := h
    have := strs_rp e q
    subst this
    refine ⟨_, a, ls.map tx, rfl, rfl, .inl r.sq, ?_, ?_⟩
    · rw [List.map_map, List.length_map, tx_length, show ls.map ((fun z : Str => z.length) ∘ tx) = ls.map (·.length) from List.map_congr_left fun z _ => tx_length z]
      exact hz
    · rw [join_tx]
      exact k _ H _ (.refl H) rp_str hk
  · exact h.elim
end Dl

/-! slices -/
namespace Dl
open PySem PySem.Spec PyProof.Rows L2

/-- what stands from lo up to hi -/
def cutG {α : Type} (xs : List α) (lo hi : Option Int) : List α := (xs.drop (HT.sIx xs.length 0 lo)).take (HT.sIx xs.length xs.length hi - HT.sIx xs.length 0 lo)
theorem cut_from {α : Type} (xs : List α) (k : Nat) : cutG xs (some (k : Int)) none = xs.drop k := by
  unfold cutG
  rw [HT.sIx_nat, HT.sIx_none]
  by_cases h : k ≤ xs.length
  · rw [Nat.min_eq_left h]
    exact List.take_of_length_le (by rw [List.length_drop]; exact Nat.le_refl _)
  · rw [Nat.min_eq_right (by omega), List.drop_length, List.drop_eq_nil_of_le (by omega)]; simp
theorem cut_upto {α : Type} (xs : List α) (k : Nat) : cutG xs none (some (k : Int)) = xs.take k := by
  unfold cutG
  rw [HT.sIx_nat, HT.sIx_none, List.drop_zero, Nat.sub_zero]
  by_cases h : k ≤ xs.length
  · rw [Nat.min_eq_left h]
  · rw [Nat.min_eq_right (by omega), List.take_length, List.take_of_length_le (by omega)]
theorem cut_both {α : Type} (xs : List α) (j k : Nat) : cutG xs (some (j : Int)) (some (k : Int)) = (xs.drop j).take (k - j) := by
  unfold cutG
  rw [HT.sIx_nat, HT.sIx_nat]
  by_cases h : j ≤ xs.length
  · rw [Nat.min_eq_left h]
    by_cases h2 : k ≤ xs.length
    · rw [Nat.min_eq_left h2]
    · rw [Nat.min_eq_right (show xs.length ≤ k by omega), List.take_of_length_le (by rw [List.length_drop]; exact Nat.le_refl _), List.take_of_length_le (by rw [List.length_drop]; omega)]
  · rw [Nat.min_eq_right (show xs.length ≤ j by omega), List.drop_length, List.drop_eq_nil_of_le (by omega)]; simp
theorem cut_len {α : Type} (xs : List α) (lo hi : Option Int) : (cutG xs lo hi).length ≤ xs.length := by
  unfold cutG
  rw [List.length_take, List.length_drop]
  omega
theorem cutV_is (xs : List V) (lo hi : Option Int) : cutV xs lo hi = cutG xs lo hi := rfl
theorem RpAll.cut {K : PySem.W.Frag} {AV : Av} {H : Hp} {ds : List Dat} {vs : List V} (h : RpAll K AV H ds vs) (lo hi : Option Int) : RpAll K AV H (cutG ds lo hi) (cutG vs lo hi) := by
  unfold cutG
  rw [h.len]
  exact (h.drop _).take _
theorem cutS_tx (l : List Nat) (lo hi : Option Int) : cutS (tx l) lo hi = tx (cutG l lo hi) := by
  unfold cutS cutG
  rw [tx_length]

@[simp] def dCut (lo hi : Option Int) : R1d
  | .str l, k => l.length ≤ big ∧ k (.str (cutG l lo hi))
  | .lst l, k => k (.lst (cutG l lo hi))
  | .tup l, k => ¬ (HT.sIx l.length 0 lo = 0 ∧ HT.sIx l.length l.length hi = l.length) ∧ k (.tup (cutG l lo hi))
  | _, _ => False
abbrev TDO (S : Type) := List Sl → S → (Option Int → S → Prop) → Prop
def rSlA (K : PySem.W.Frag) : V → Option Int → Option Int → Hp → VK → Prop := fun x lo hi H Q => rSlL K x lo hi H Q ∨ rSlS x lo hi H Q ∨ rSlT K x lo hi H Q
section
variable {S : Type} {D : DX S} {X : Cx} {a b e o : Expr} {lo hi : Option Expr} {ta tb te : TE} {da db ed : TD S} {tl th : TO} {dl dh : TDO S} {pos p2 : Pos}
@[simp] def dNoPart : TDO S := fun _ s Q => Q none s
@[simp] def asI : Dat → (Int → Prop) → Prop
  | .int b, k => k b
  | _, _ => False
theorem asI_of {x : Dat} {k : Int → Prop} (h : asI x k) : ∃ b, x = .int b ∧ k b := by
  cases x with
  | int b => exact ⟨b, rfl, h⟩
  | _ => exact h.elim
@[simp] def dPart (t : TD S) : TDO S := fun ρ s Q => t ρ s fun x s1 => asI x fun i => Q (some i) s1
structure DO (X : Cx) (D : DX S) (e : Option Expr) (te : TO) (td : TDO S) : Prop where
  pe : PO X e te
  le : ∀ AV σ H ρ s (Qd : Option Int → S → Prop) (Q : Option Int → Hp → Prop), At D X.K AV σ H ρ s → td ρ s Qd → (∀ b H' s', ExtB D.C.vs H H' → D.C.I AV s' H' → Qd b s' → Q b H') → te σ H Q
theorem do_none : DO X D none tNoPart dNoPart := ⟨po_none, fun AV σ H ρ s Qd Q A h k => k none H s (.refl _ _) A.inv h⟩
theorem do_some (h : DE X D a ta da) : DO X D (some a) (tPart ta) (dPart da) := ⟨po_some h.pe, fun AV σ H ρ s Qd Q A hd k => by
  refine h.le AV σ H ρ s _ _ A hd fun x H1 dx s1 e1 i1 rx q1 => ?_
  obtain ⟨i, rfl, q⟩ := asI_of q1
  unfold Rp at rx; subst rx
  exact ⟨i, rfl, k _ H1 s1 e1 i1 q⟩⟩
@[simp] def dSl (t : TD S) (l h : TDO S) : TD S := fun ρ s Q => t ρ s fun x s1 => l ρ s1 fun lo s2 => h ρ s2 fun hi s3 => dCut lo hi x fun z => Q z s3
theorem de_slice (he : DE X D e te ed) (hl : DO X D lo tl dl) (hh : DO X D hi th dh) : DE X D (.Subscript e (.Slice lo hi none p2) pos) (tSl (rSlA X.K) te tl th) (dSl ed dl dh) :=
  ⟨pe_slice (sl_list.or (sl_str.or sl_tup)) he.pe hl.pe hh.pe, fun AV σ H ρ s Qd Q A h k => by
  refine he.le AV σ H ρ s _ _ A h fun x H1 dx s1 e1 i1 rx q1 => ?_
  have A1 := A.go e1 i1
  refine hl.le AV σ H1 ρ s1 _ _ A1 q1 fun l H2 s2 e2 i2 q2 => ?_
  have A2 := A1.go e2 i2
  refine hh.le AV σ H2 ρ s2 _ _ A2 q2 fun u H3 s3 e3 i3 q3 => ?_
  have A3 := A2.go e3 i3
  have rx3 : Rp X.K AV H3 dx x := Rp.keeps (A1.keeps (e2.trans e3)) (fun _ z => z) dx rx
  unfold dCut at q3
  split at q3
  · unfold Rp at rx3; subst rx3
    refine .inr (.inl ⟨_, rfl, by rw [tx_length, big_eq]; exact q3.1, ?_⟩)
    rw [cutS_tx]
    exact k _ H3 _ s3 ((e1.trans e2).trans e3) i3 rp_str q3.2
  · unfold Rp at rx3
    obtain ⟨a, ys, rfl, r, q⟩ := rx3
    refine .inl ⟨a, ys, rfl, r.sq, fun p hp => ?_⟩
    have sm : Same H3 (upd H3 p (.lst (cutV ys l u))) := Same.upd_new hp
    exact k _ _ _ s3 (((e1.trans e2).trans e3).trans (.of sm)) (A3.same sm).inv (rp_newL (notAV A3 hp) upd_same ((q.cut l u).same sm)) q3
  · unfold Rp at rx3
    obtain ⟨a, ys, rfl, r, q⟩ := rx3
    refine .inr (.inr ⟨a, ys, rfl, r.sq, by rw [q.len]; exact q3.1, fun p hp => ?_⟩)
    have sm : Same H3 (upd H3 p (.tup (cutV ys l u))) := Same.upd_new hp
    exact k _ _ _ s3 (((e1.trans e2).trans e3).trans (.of sm)) (A3.same sm).inv (rp_newT (notAV A3 hp) upd_same ((q.cut l u).same sm)) q3.2
  · exact q3.elim⟩
end

/-! ### text[k::st] -/
def stepL (l : List Nat) (k st : Int) : List Nat :=
  if (st == 1 && (Builtin.Str.strSliceIndices (some k) none st l.length).length == l.length) = true then l else (Builtin.Str.strSliceIndices (some k) none st l.length).filterMap (l[·]?)
def tStep (ta tb tc : TE) : TE := fun σ H Q => ta σ H fun x H1 => tb σ H1 fun y H2 => tc σ H2 fun z H3 => ∃ l k st, x = .str (tx l) ∧ y = .int k ∧ z = .int st ∧ st ≠ 0 ∧ (stepL l k st).length ≤ sizeLine ∧ Q (.str (tx (stepL l k st))) H3
theorem pe_step {X : Cx} {a b c : Expr} {ta tb tc : TE} {p pos : Pos} (ha : PE X a ta) (hb : PE X b tb) (hc : PE X c tc) (ht : ∀ o r, letTemporaryGo a o r = pure () := by intro _ _; rfl) : PE X (.Subscript a (.Slice (some b) none (some c) p) pos) (tStep ta tb tc) := by
  refine ⟨fun pins s σ H Q I h => ?_⟩
  refine wpAny_Subscript_Slice_step (T := "str") F.slot_str_getitem.lookup (thn (ha.run pins s σ H _ I h) fun v s1 ⟨x, H1, I1, r1, q1⟩ => ?_) ht
  refine wpAny_Slice (thn (t := evalPart (some b) X.env) (hb.run pins s1 σ H1 _ I1 q1) fun w s2 ⟨y, H2, I2, r2, q2⟩ => ?_)
  rw [evalPart_none]
  refine wpAny_pure (thn (t := evalPart (some c) X.env) (hc.run pins s2 σ H2 _ I2 q2) fun u s3 ⟨z, H3, I3, r3, q3⟩ => ?_)
  obtain ⟨l, k, st, rfl, rfl, rfl, h0, hl, q⟩ := q3
  obtain ⟨t1, rfl⟩ := r1
  obtain ⟨t2, rfl⟩ := r2
  obtain ⟨t3, rfl⟩ := r3
  refine ⟨typeIs_str _ _ _, wpAny_getItem_str_slice (l := some (k, t2)) (u := none) (st := some (st, t3)) ⟨_, Heap.get?_push_size _ rfl, rfl, rfl⟩ (by simpa using h0) ?_⟩
  have I4 : Inv X pins σ H3 { s3 with heap := s3.heap.push { cls := .type "slice", data := .fields #[.int k t2, .none, .int st t3] } } := I3.kept (t' := s3.toks) fun b ob q => Heap.get?_push_of_some _ q
  unfold sliceMade slicePicked
  show Made.post (if (st == 1 && (Builtin.Str.strSliceIndices (some k) none st (tx l).length).length == (tx l).length) = true then .val (.str (tx l) t1) else .str ⟨((Builtin.Str.strSliceIndices (some k) none st (tx l).length).filterMap ((tx l).cps[·]?)).toArray⟩) _ _
  rw [tx_length]
  unfold stepL at q hl
  by_cases cc : (st == 1 && (Builtin.Str.strSliceIndices (some k) none st l.length).length == l.length) = true
  · rw [if_pos cc] at q ⊢
    exact ⟨.str (tx l), H3, I4, ⟨t1, rfl⟩, q⟩
  · rw [if_neg cc] at q hl ⊢
    have e : ((Builtin.Str.strSliceIndices (some k) none st l.length).filterMap ((tx l).cps[·]?)) = (Builtin.Str.strSliceIndices (some k) none st l.length).filterMap (l[·]?) := by
      congr 1
      funext i
      simp [tx]
    rw [e]
    exact ⟨by rw [show (⟨((Builtin.Str.strSliceIndices (some k) none st l.length).filterMap (l[·]?)).toArray⟩ : Str) = tx _ from rfl, tx_length]; exact hl, .str _, H3, I4.tok _, ⟨_, rfl⟩, q⟩
section
variable {S : Type} {D : DX S} {X : Cx} {a b c : Expr} {ta tb tc : TE} {da db dc : TD S} {p pos : Pos}
@[simp] def asS : Dat → (List Nat → Prop) → Prop
  | .str b, k => k b
  | _, _ => False
theorem asS_of {x : Dat} {k : List Nat → Prop} (h : asS x k) : ∃ b, x = .str b ∧ k b := by
  cases x with
  | str b => exact ⟨b, rfl, h⟩
  | _ => exact h.elim
@[simp] def dStep (da db dc : TD S) : TD S := fun ρ s Q => da ρ s fun x s1 => db ρ s1 fun y s2 => dc ρ s2 fun z s3 => asS x fun l => asI y fun k => asI z fun st => st ≠ 0 ∧ (stepL l k st).length ≤ big ∧ Q (.str (stepL l k st)) s3
theorem de_step (ha : DE X D a ta da) (hb : DE X D b tb db) (hc : DE X D c tc dc) (ht : ∀ o r, letTemporaryGo a o r = pure () := by intro _ _; rfl) : DE X D (.Subscript a (.Slice (some b) none (some c) p) pos) (tStep ta tb tc) (dStep da db dc) :=
  ⟨pe_step ha.pe hb.pe hc.pe ht, fun AV σ H ρ s Qd Q A h k => by
  refine ha.le AV σ H ρ s _ _ A h fun x H1 dx s1 e1 i1 rx q1 => ?_
  have A1 := A.go e1 i1
  refine hb.le AV σ H1 ρ s1 _ _ A1 q1 fun y H2 dy s2 e2 i2 ry q2 => ?_
  have A2 := A1.go e2 i2
  refine hc.le AV σ H2 ρ s2 _ _ A2 q2 fun z H3 dz s3 e3 i3 rz q3 => ?_
  obtain ⟨l, rfl, q3⟩ := asS_of q3
  obtain ⟨kk, rfl, q3⟩ := asI_of q3
  obtain ⟨st, rfl, h0, hl, q⟩ := asI_of q3
  unfold Rp at rx ry rz
  subst rx ry rz
  exact ⟨l, kk, st, rfl, rfl, rfl, h0, by rw [big_eq]; exact hl, k _ H3 _ s3 ((e1.trans e2).trans e3) i3 rp_str q⟩⟩
end
end Dl

/-! statements -/
namespace Dl
open PySem PySem.Spec PyProof.Rows L2

/-- what no data may use: what the def's entry says, and the lists that are a name's alone -/
def ownAV (A0 : Av) (σ : Sg) (ρ : List Sl) : Av := fun a => A0 a ∨ ∃ (i : Nat) (xs : List Dat), ρ[i]? = some (Sl.own xs) ∧ σ[i]? = some (some (V.ref a))
/-- between statements -/
structure AtS {S : Type} (D : DX S) (K : PySem.W.Frag) (σ : Sg) (H : Hp) (ρ : List Sl) (s : S) : Prop where
  at_ : At D K (ownAV D.A0 σ ρ) σ H ρ s
  dist : ∀ (i j : Nat) (xs ys : List Dat) (a : Addr), ρ[i]? = some (Sl.own xs) → ρ[j]? = some (Sl.own ys) → σ[i]? = some (some (V.ref a)) → σ[j]? = some (some (V.ref a)) → i = j
  fresh : ∀ (i : Nat) (xs : List Dat) (a : Addr), ρ[i]? = some (Sl.own xs) → σ[i]? = some (some (V.ref a)) → ¬ D.A0 a ∧ D.H0 a = none

structure DEnds (S : Type) where
  nx : List Sl → S → Prop
  rt : Dat → S → Prop
  bk : List Sl → S → Prop := fun _ _ => False
  ct : List Sl → S → Prop := fun _ _ => False
  /-- a new list is returned -/
  rn : List Dat → S → Prop := fun _ _ => False
abbrev TDS (S : Type) := DEnds S → List Sl → S → Prop

section
variable {S : Type}
/-- an end's wish is met -/
def Nxt (D : DX S) (K : PySem.W.Frag) (AV : Av) (H : Hp) (p : List Sl → S → Prop) (q : Sg → Hp → Prop) : Prop := ∀ σ' H' ρ' s', AtS D K σ' H' ρ' s' → Rel AV H (ownAV D.A0 σ' ρ') H' → p ρ' s' → q σ' H'
structure Fits (D : DX S) (K : PySem.W.Frag) (AV : Av) (H : Hp) (De : DEnds S) (E : Ends) : Prop where
  nx : Nxt D K AV H De.nx E.nx
  rt : ∀ v H' d s', ExtB D.C.vs D.H0 H' → D.C.I D.A0 s' H' → Rp K D.A0 H' d v → De.rt d s' → E.rt v H'
  bk : Nxt D K AV H De.bk E.bk
  ct : Nxt D K AV H De.ct E.ct
  rn : ∀ p H' ds ys s', D.H0 p = none → ExtB D.C.vs D.H0 H' → D.C.I (fun a => D.A0 a ∨ a = p) s' H' → H' p = some (.lst ys) → RpAll K (fun a => D.A0 a ∨ a = p) H' ds ys → De.rn ds s' → E.rt (.ref p) H'
def LS (D : DX S) (K : PySem.W.Frag) (ts : TS) (td : TDS S) : Prop := ∀ σ H ρ s (De : DEnds S) (E : Ends), AtS D K σ H ρ s → td De ρ s → Fits D K (ownAV D.A0 σ ρ) H De E → ts E σ H
structure DS (X : Cx) (D : DX S) (st : Stmt) (ts : TS) (td : TDS S) : Prop where
  ps : PS X st ts
  ls : LS D X.K ts td
structure DSs (X : Cx) (D : DX S) (st : List Stmt) (ts : TS) (td : TDS S) : Prop where
  ps : PSs X st ts
  ls : LS D X.K ts td
@[simp] def dNext : TDS S := fun De ρ s => De.nx ρ s
@[simp] def dSeq (t u : TDS S) : TDS S := fun De ρ s => t { De with nx := u De } ρ s
@[simp] def dDrop (te : TD S) : TDS S := fun De ρ s => te ρ s fun _ s1 => De.nx ρ s1
@[simp] def dRet (te : TD S) : TDS S := fun De ρ s => te ρ s De.rt
@[simp] def dRetN : TDS S := fun De _ s => De.rt .non s
@[simp] def dIfS (c : TDB S) (t u : TDS S) : TDS S := fun De ρ s => c ρ s fun b s1 => (b = true → t De ρ s1) ∧ (b = false → u De ρ s1)
@[simp] def dNever : TDS S := fun _ _ _ => False
@[simp] def dBreak : TDS S := fun De ρ s => De.bk ρ s
@[simp] def dCont : TDS S := fun De ρ s => De.ct ρ s
@[simp] def dSet (i : Nat) (te : TD S) : TDS S := fun De ρ s => te ρ s fun d s1 => De.nx (ρ.set i (.dat d)) s1
@[simp] def dOwn (i : Nat) (tf : TDA S) : TDS S := fun De ρ s => tf ρ s fun xs s1 => De.nx (ρ.set i (.own xs)) s1
@[simp] def dApp (i : Nat) (te : TD S) : TDS S := fun De ρ s => (look ρ i).asOwn fun _ => te ρ s fun y s1 => (look ρ i).asOwn fun xs => xs.length < big ∧ De.nx (ρ.set i (.own (xs ++ [y]))) s1
/-- from here on the list at a name may be shared, and changes no more -/
@[simp] def dDem (i : Nat) (t : TDS S) : TDS S := fun De ρ s => (look ρ i).asOwn fun xs => t De (ρ.set i (.dat (.lst xs))) s
end

section
variable {S : Type} {D : DX S} {K : PySem.W.Frag} {AV : Av} {σ σ' : Sg} {H H' : Hp} {ρ ρ' : List Sl} {s s' : S}
theorem At.anti {AV' : Av} (A : At D K AV σ H ρ s) (m : ∀ a, AV' a → AV a) (l : ∀ a, D.A0 a → AV' a) (v : ∀ a ∈ D.C.vs, AV' a) (o : ∀ (i : Nat) (xs : List Dat) (a : Addr), ρ[i]? = some (Sl.own xs) → σ[i]? = some (some (V.ref a)) → AV' a) : At D K AV' σ H ρ s := by
  have k : Keeps AV H H := fun _ _ _ h => h
  refine ⟨⟨A.env.len, fun i d h => ?_, fun i xs h => ?_⟩, D.C.anti m A.inv, A.ext, fun a z => A.trk a (m a z), v, l⟩
  · obtain ⟨u, h1, h2⟩ := A.env.dat i d h
    exact ⟨u, h1, Rp.keeps k m d h2⟩
  · obtain ⟨a, ys, h1, h2, h3, h4, h5⟩ := A.env.own i xs h
    exact ⟨a, ys, h1, o i xs a h h1, h3, h4, RpAll.keeps k m xs h5⟩
/-- behind an evaluation -/
theorem AtS.go (A : AtS D K σ H ρ s) (e : ExtB D.C.vs H H') (i : D.C.I (ownAV D.A0 σ ρ) s' H') : AtS D K σ H' ρ s' := ⟨A.at_.go e i, A.dist, A.fresh⟩
theorem ExtB.rel (A : At D K AV σ H ρ s) (e : ExtB D.C.vs H H') : Rel AV H AV H' := ⟨A.keeps e, fun _ z => .inl z⟩
theorem Fits.go {De : DEnds S} {E : Ends} {AV' : Av} (F : Fits D K AV H De E) (r : Rel AV H AV' H') : Fits D K AV' H' De E :=
  ⟨fun σ2 H2 ρ2 s2 a b c => F.nx σ2 H2 ρ2 s2 a (r.trans b) c, F.rt, fun σ2 H2 ρ2 s2 a b c => F.bk σ2 H2 ρ2 s2 a (r.trans b) c, fun σ2 H2 ρ2 s2 a b c => F.ct σ2 H2 ρ2 s2 a (r.trans b) c, F.rn⟩
theorem set_get_own {ρ : List Sl} {i j : Nat} {d : Dat} {xs : List Dat} (h : (ρ.set i (Sl.dat d))[j]? = some (Sl.own xs)) : j ≠ i ∧ ρ[j]? = some (Sl.own xs) := by
  by_cases e : i = j
  · subst e
    by_cases l : i < ρ.length
    · rw [List.getElem?_set_self l] at h; cases h
    · rw [List.getElem?_eq_none (by simpa using l)] at h; cases h
  · rw [List.getElem?_set_ne e] at h
    exact ⟨Ne.symm e, h⟩
/-- a datum is stored -/
theorem At.set {i : Nat} {v : V} {d : Dat} (A : At D K AV σ H ρ s) (r : Rp K AV H d v) : At D K AV (σ.set i (some v)) H (ρ.set i (Sl.dat d)) s := by
  refine ⟨⟨by simp [A.env.len], fun j d' h => ?_, fun j xs h => ?_⟩, A.inv, A.ext, A.trk, A.vol, A.low⟩
  · by_cases e : i = j
    · subst e
      by_cases l : i < ρ.length
      · rw [List.getElem?_set_self l] at h; cases h
        exact ⟨v, by rw [List.getElem?_set_self (by rw [A.env.len]; exact l)], r⟩
      · rw [List.getElem?_eq_none (by simpa using l)] at h; cases h
    · rw [List.getElem?_set_ne e] at h
      obtain ⟨u, h1, h2⟩ := A.env.dat j d' h
      exact ⟨u, by rw [List.getElem?_set_ne e]; exact h1, h2⟩
  · obtain ⟨ne, h⟩ := set_get_own h
    obtain ⟨a, ys, h1, q⟩ := A.env.own j xs h
    exact ⟨a, ys, by rw [List.getElem?_set_ne (Ne.symm ne)]; exact h1, q⟩
theorem ownAV_set {A0 : Av} {i : Nat} {v : V} {d : Dat} : ∀ a, ownAV A0 (σ.set i (some v)) (ρ.set i (Sl.dat d)) a → ownAV A0 σ ρ a := fun a z => by
  rcases z with z | ⟨j, xs, h1, h2⟩
  · exact .inl z
  · obtain ⟨ne, h⟩ := set_get_own h1
    rw [List.getElem?_set_ne (Ne.symm ne)] at h2
    exact .inr ⟨j, xs, h, h2⟩
theorem AtS.set {i : Nat} {v : V} {d : Dat} (A : AtS D K σ H ρ s) (r : Rp K (ownAV D.A0 σ ρ) H d v) : AtS D K (σ.set i (some v)) H (ρ.set i (Sl.dat d)) s := by
  refine ⟨(A.at_.set r).anti ownAV_set (fun a z => .inl z) (fun a z => ?_) (fun j xs a h1 h2 => .inr ⟨j, xs, h1, h2⟩), fun j k xs ys a h1 h2 h3 h4 => ?_, fun j xs a h1 h2 => ?_⟩
  · rcases A.at_.vol a z with q | ⟨j, xs, h1, h2⟩
    · exact .inl q
    · obtain ⟨b, ys, g1, g2, g3, _⟩ := A.at_.env.own j xs h1
      rw [h2] at g1; cases g1
      exact absurd z g3
  · obtain ⟨n1, g1⟩ := set_get_own h1
    obtain ⟨n2, g2⟩ := set_get_own h2
    rw [List.getElem?_set_ne (Ne.symm n1)] at h3
    rw [List.getElem?_set_ne (Ne.symm n2)] at h4
    exact A.dist j k xs ys a g1 g2 h3 h4
  · obtain ⟨n1, g1⟩ := set_get_own h1
    rw [List.getElem?_set_ne (Ne.symm n1)] at h2
    exact A.fresh j xs a g1 h2
/-- names are forgotten -/
structure Sub (ρ' ρ : List Sl) : Prop where
  len : ρ'.length = ρ.length
  dat : ∀ (i : Nat) (d : Dat), ρ'[i]? = some (Sl.dat d) → ρ[i]? = some (Sl.dat d)
  own : ∀ (i : Nat) (d : List Dat), ρ'[i]? = some (Sl.own d) → ρ[i]? = some (Sl.own d)
theorem At.forget (A : At D K AV σ H ρ s) (b : Sub ρ' ρ) : At D K AV σ H ρ' s :=
  ⟨⟨A.env.len.trans b.len.symm, fun i d h => A.env.dat i d (b.dat i d h), fun i d h => A.env.own i d (b.own i d h)⟩, A.inv, A.ext, A.trk, A.vol, A.low⟩
end

section
variable {S : Type} {D : DX S} {X : Cx} {a b c e : Expr} {es : List Expr} {st : Stmt} {rest sa sb : List Stmt} {te : TE} {ed : TD S} {tA : TA} {dA : TDA S} {tt : TT} {qt : TDB S} {t u : TS} {dt du : TDS S} {pos pos' : Pos}
theorem ls_seq {K : PySem.W.Frag} (h1 : LS D K t dt) (h2 : LS D K u du) : LS D K (tSeq t u) (dSeq dt du) := fun σ H ρ s De E A h F => by
  refine h1 σ H ρ s _ _ A h ⟨fun σ' H' ρ' s' A' r q => ?_, F.rt, F.bk, F.ct, F.rn⟩
  exact h2 σ' H' ρ' s' De E A' q (F.go r)
theorem dss_nil : DSs X D [] tNext dNext := ⟨pss_nil, fun σ H ρ s De E A h F => F.nx σ H ρ s A .refl h⟩
theorem dss_cons (h1 : DS X D st t dt) (h2 : DSs X D rest u du) : DSs X D (st :: rest) (tSeq t u) (dSeq dt du) := ⟨pss_cons h1.ps h2.ps, ls_seq h1.ls h2.ls⟩
theorem dss_one (h1 : DS X D st t dt) : DSs X D [st] t dt := ⟨pss_one h1.ps, h1.ls⟩
theorem ds_pass : DS X D (.Pass pos) tNext dNext := ⟨ps_pass, fun σ H ρ s De E A h F => F.nx σ H ρ s A .refl h⟩
theorem ds_break : DS X D (.Break pos) tBreak dBreak := ⟨ps_break, fun σ H ρ s De E A h F => F.bk σ H ρ s A .refl h⟩
theorem ds_cont : DS X D (.Continue pos) tCont dCont := ⟨ps_continue, fun σ H ρ s De E A h F => F.ct σ H ρ s A .refl h⟩
theorem ds_never : DS X D st tNever dNever := ⟨ps_never, fun _ _ _ _ _ _ _ h _ => h.elim⟩
theorem ds_expr (he : DE X D e te ed) (hs : swapsWith e none pos.line X.env = Pure.pure false := by rfl) : DS X D (.Expr e pos) (tDrop te) (dDrop ed) := ⟨ps_expr he.pe hs, fun σ H ρ s De E A h F => by
  refine he.le _ σ H ρ s _ _ A.at_ h fun v H1 d s1 e1 i1 r1 q1 => ?_
  exact F.nx σ H1 ρ s1 (A.go e1 i1) (e1.rel A.at_) q1⟩
theorem ls_ret {K : PySem.W.Frag} (he : LE D K te ed) : LS D K (tRet te) (dRet ed) := fun σ H ρ s De E A h F => by
  refine he _ σ H ρ s _ _ A.at_ h fun v H1 d s1 e1 i1 r1 q1 => ?_
  exact F.rt v H1 d s1 (A.at_.ext.trans e1) (D.C.anti (fun a z => .inl z) i1) (Rp.keeps (fun _ _ _ h => h) (fun a z => .inl z) d r1) q1
theorem ds_ret (he : DE X D e te ed) : DS X D (.Return (some e) pos) (tRet te) (dRet ed) := ⟨ps_ret he.pe, ls_ret he.le⟩
theorem ls_retF {K : PySem.W.Frag} {tf : TE} {dF : TDA S} (he : LF D K tf dF) : LS D K (tRet tf) (fun De ρ s => dF ρ s De.rn) := fun σ H ρ s De E A h F => by
  refine he _ σ H ρ s _ _ A.at_ h fun p H1 ds ys s1 hp e1 i1 hq r1 q1 => ?_
  have m : ∀ a, (D.A0 a ∨ a = p) → ownAV D.A0 σ ρ a ∨ a = p := fun a z => z.imp .inl id
  have h0 : D.H0 p = none := by
    cases z : D.H0 p with
    | none => rfl
    | some o =>
      have nv : p ∉ D.C.vs := fun y => D.C.trk A.at_.inv y hp
      rw [A.at_.ext p o nv z] at hp; cases hp
  exact F.rn p H1 ds ys s1 h0 (A.at_.ext.trans e1) (D.C.anti m i1) hq (RpAll.keeps (fun _ _ _ h => h) m ds r1) q1
theorem ds_retF {tf : TE} {dF : TDA S} (he : DF X D e tf dF) : DS X D (.Return (some e) pos) (tRet tf) (fun De ρ s => dF ρ s De.rn) := ⟨ps_ret he.pe, ls_retF he.le⟩
theorem ds_retN : DS X D (.Return none pos) tRetN dRetN := ⟨ps_retN, fun σ H ρ s De E A h F => F.rt .non H .non s A.at_.ext (D.C.anti (fun a z => .inl z) A.at_.inv) rp_non h⟩
theorem ds_if (hc : DT X D c tt qt) (ha : DSs X D sa t dt) (hb : DSs X D sb u du) : DS X D (.If c sa sb pos) (tIfS tt t u) (dIfS qt dt du) := ⟨ps_if hc.pe ha.ps hb.ps, fun σ H ρ s De E A h F => by
  refine hc.le _ σ H ρ s _ _ A.at_ h fun b H1 s1 e1 i1 q1 => ?_
  have A1 := A.go e1 i1
  cases b with
  | true => exact iteT (ha.ls σ H1 ρ s1 De E A1 (q1.1 rfl) (F.go (e1.rel A.at_)))
  | false => exact iteF (hb.ls σ H1 ρ s1 De E A1 (q1.2 rfl) (F.go (e1.rel A.at_)))⟩
theorem ls_set {K : PySem.W.Frag} {i : Nat} (he : LE D K te ed) : LS D K (tAsg te (gName i)) (dSet i ed) := fun σ H ρ s De E A h F => by
  refine he _ σ H ρ s _ _ A.at_ h fun v H1 d s1 e1 i1 r1 q1 => ?_
  have A1 := A.go e1 i1
  exact F.nx _ H1 _ s1 (A1.set r1) ((e1.rel A.at_).trans ⟨fun _ _ _ h => h, fun a z => .inl (ownAV_set a z)⟩) q1
theorem ds_set {i : Nat} {x : Str} (he : DE X D e te ed) (hN : X.N.Nodup) (hi : X.N[i]? = some x := by rfl) (hx : Loc X.env.scope x := by first | exact .inl rfl | exact .inr rfl)
    (hs : swapsWith e (some (.Name x pos')) pos.line X.env = Pure.pure false := by rfl) (hf : X.fn x = true ∨ X.env.scope.names.lookup x = some .local := by first | exact .inl rfl | exact .inr rfl) :
    DS X D (.Assign [.Name x pos'] e pos) (tAsg te (gName i)) (dSet i ed) := ⟨ps_set hN hi hx he.pe hs hf, ls_set he.le⟩
end
end Dl

/-! lists that are a name's alone -/
namespace Dl
open PySem PySem.Spec PyProof.Rows L2

section
variable {S : Type} {D : DX S} {K : PySem.W.Frag} {AV : Av} {σ σ' : Sg} {H H' : Hp} {ρ ρ' : List Sl} {s s' : S}
theorem set_own_own {ρ : List Sl} {i j : Nat} {zs xs : List Dat} (h : (ρ.set i (Sl.own zs))[j]? = some (Sl.own xs)) : (j = i ∧ i < ρ.length ∧ xs = zs) ∨ j ≠ i ∧ ρ[j]? = some (Sl.own xs) := by
  by_cases e : i = j
  · subst e
    by_cases l : i < ρ.length
    · rw [List.getElem?_set_self l] at h; cases h; exact .inl ⟨rfl, l, rfl⟩
    · rw [List.getElem?_eq_none (by simpa using l)] at h; cases h
  · rw [List.getElem?_set_ne e] at h
    exact .inr ⟨Ne.symm e, h⟩
theorem set_own_dat {ρ : List Sl} {i j : Nat} {zs : List Dat} {d : Dat} (h : (ρ.set i (Sl.own zs))[j]? = some (Sl.dat d)) : j ≠ i ∧ ρ[j]? = some (Sl.dat d) := by
  by_cases e : i = j
  · subst e
    by_cases l : i < ρ.length
    · rw [List.getElem?_set_self l] at h; cases h
    · rw [List.getElem?_eq_none (by simpa using l)] at h; cases h
  · rw [List.getElem?_set_ne e] at h
    exact ⟨Ne.symm e, h⟩
/-- a new list comes to a name -/
theorem AtS.own {i : Nat} {p : Addr} {xs : List Dat} {ys : List V} (A : AtS D K σ H ρ s) (hp : H p = none) (e : ExtB D.C.vs H H') (ci : D.C.I (fun a => ownAV D.A0 σ ρ a ∨ a = p) s' H') (hq : H' p = some (.lst ys))
    (r : RpAll K (fun a => ownAV D.A0 σ ρ a ∨ a = p) H' xs ys) : AtS D K (σ.set i (some (.ref p))) H' (ρ.set i (Sl.own xs)) s' ∧ Rel (ownAV D.A0 σ ρ) H (ownAV D.A0 (σ.set i (some (.ref p))) (ρ.set i (Sl.own xs))) H' := by
  have hv : p ∉ D.C.vs := fun z => A.at_.trk p (A.at_.vol p z) hp
  have rl : Rel (ownAV D.A0 σ ρ) H (fun a => ownAV D.A0 σ ρ a ∨ a = p) H' := ⟨A.at_.keeps e, fun a z => z.elim .inl fun q => .inr (by rw [q]; exact hp)⟩
  have sub : ∀ a, ownAV D.A0 (σ.set i (some (.ref p))) (ρ.set i (Sl.own xs)) a → ownAV D.A0 σ ρ a ∨ a = p := fun a z => by
    rcases z with z | ⟨j, zs, h1, h2⟩
    · exact .inl (.inl z)
    · rcases set_own_own h1 with ⟨rfl, l, rfl⟩ | ⟨n, h1⟩
      · rw [List.getElem?_set_self (by rw [A.at_.env.len]; exact l)] at h2
        cases h2; exact .inr rfl
      · rw [List.getElem?_set_ne (Ne.symm n)] at h2
        exact .inl (.inr ⟨j, zs, h1, h2⟩)
  have base : At D K (fun a => ownAV D.A0 σ ρ a ∨ a = p) (σ.set i (some (.ref p))) H' (ρ.set i (Sl.own xs)) s' := by
    refine ⟨⟨by simp [A.at_.env.len], fun j d h => ?_, fun j zs h => ?_⟩, ci, A.at_.ext.trans e, fun a z => ?_, fun a z => .inl (A.at_.vol a z), fun a z => .inl (.inl z)⟩
    · obtain ⟨n, h⟩ := set_own_dat h
      obtain ⟨u, h1, h2⟩ := A.at_.env.dat j d h
      exact ⟨u, by rw [List.getElem?_set_ne (Ne.symm n)]; exact h1, Rp.rel rl d h2⟩
    · rcases set_own_own h with ⟨rfl, l, rfl⟩ | ⟨n, h⟩
      · exact ⟨p, ys, by rw [List.getElem?_set_self (by rw [A.at_.env.len]; exact l)], .inr rfl, hv, hq, r⟩
      · obtain ⟨a, ws, h1, h2, h3, h4, h5⟩ := A.at_.env.own j zs h
        exact ⟨a, ws, by rw [List.getElem?_set_ne (Ne.symm n)]; exact h1, .inl h2, h3, e _ _ h3 h4, RpAll.rel rl zs h5⟩
    · rcases z with z | z
      · exact trk_go A.at_.trk e (fun a ha => D.C.trk ci ha) a z
      · rw [z, hq]; exact fun z => by cases z
  refine ⟨⟨base.anti sub (fun a z => .inl z) (fun a z => ?_) fun j zs a h1 h2 => .inr ⟨j, zs, h1, h2⟩, fun j k zs ws a h1 h2 h3 h4 => ?_, fun j zs a h1 h2 => ?_⟩, rl.trans ⟨fun _ _ _ h => h, fun a z => .inl (sub a z)⟩⟩
  · rcases A.at_.vol a z with q | ⟨j, zs, h1, h2⟩
    · exact .inl q
    · obtain ⟨b, ws, g1, _, g3, _⟩ := A.at_.env.own j zs h1
      rw [h2] at g1; cases g1
      exact absurd z g3
  · have one : ∀ (m : Nat) (zs : List Dat), (ρ.set i (Sl.own xs))[m]? = some (Sl.own zs) → (σ.set i (some (V.ref p)))[m]? = some (some (V.ref a)) → (m = i ∧ a = p) ∨ (m ≠ i ∧ a ≠ p ∧ ∃ zs, ρ[m]? = some (Sl.own zs) ∧ σ[m]? = some (some (V.ref a))) := fun m zs g1 g2 => by
      rcases set_own_own g1 with ⟨rfl, l, rfl⟩ | ⟨n, g1⟩
      · rw [List.getElem?_set_self (by rw [A.at_.env.len]; exact l)] at g2
        cases g2; exact .inl ⟨rfl, rfl⟩
      · rw [List.getElem?_set_ne (Ne.symm n)] at g2
        obtain ⟨b, ws, q1, _, _, q4, _⟩ := A.at_.env.own m zs g1
        rw [g2] at q1; cases q1
        exact .inr ⟨n, ne_of_none q4 hp, zs, g1, g2⟩
    rcases one j zs h1 h3 with ⟨e1, e2⟩ | ⟨n1, e1, us, f1, f2⟩
    · rcases one k ws h2 h4 with ⟨e3, e4⟩ | ⟨n2, e3, us, f1, f2⟩
      · rw [e1, e3]
      · exact absurd e2 e3
    · rcases one k ws h2 h4 with ⟨e3, e4⟩ | ⟨n2, e3, us2, f3, f4⟩
      · exact absurd e4 e1
      · exact A.dist j k us us2 a f1 f3 f2 f4
  · rcases set_own_own h1 with ⟨rfl, l, rfl⟩ | ⟨n, h1⟩
    · rw [List.getElem?_set_self (by rw [A.at_.env.len]; exact l)] at h2
      cases h2
      refine ⟨fun z => A.at_.trk p (.inl z) hp, ?_⟩
      cases q : D.H0 p with
      | none => rfl
      | some o => have := A.at_.ext p o hv q; rw [hp] at this; cases this
    · rw [List.getElem?_set_ne (Ne.symm n)] at h2
      exact A.fresh j zs a h1 h2
theorem Lk.lt {ρ : List Sl} {i : Nat} {x : Sl} (h : ρ[i]? = some x) : i < ρ.length := (List.getElem?_eq_some_iff.mp h).1
/-- the list at a name changes -/
theorem AtS.mut {i : Nat} {a : Addr} {xs zs : List Dat} {ws : List V} (A : AtS D K σ H ρ s) (hi : ρ[i]? = some (Sl.own xs)) (ha : σ[i]? = some (some (V.ref a))) (r : RpAll K (ownAV D.A0 σ ρ) H zs ws) :
    AtS D K σ (upd H a (.lst ws)) (ρ.set i (Sl.own zs)) s ∧ Rel (ownAV D.A0 σ ρ) H (ownAV D.A0 σ (ρ.set i (Sl.own zs))) (upd H a (.lst ws)) := by
  obtain ⟨b, ys, g1, g2, g3, g4, g5⟩ := A.at_.env.own i xs hi
  rw [ha] at g1; cases g1
  have sub : ∀ c, ownAV D.A0 σ (ρ.set i (Sl.own zs)) c ↔ ownAV D.A0 σ ρ c := fun c => by
    refine or_congr Iff.rfl ⟨fun ⟨j, us, h1, h2⟩ => ?_, fun ⟨j, us, h1, h2⟩ => ?_⟩
    · rcases set_own_own h1 with ⟨rfl, l, rfl⟩ | ⟨n, h1⟩
      · exact ⟨j, xs, hi, h2⟩
      · exact ⟨j, us, h1, h2⟩
    · by_cases e : i = j
      · subst e
        exact ⟨i, zs, by rw [List.getElem?_set_self (Lk.lt hi)], h2⟩
      · exact ⟨j, us, by rw [List.getElem?_set_ne e]; exact h1, h2⟩
  have kp : ∀ c o, ¬ ownAV D.A0 σ ρ c → H c = some o → upd H a (.lst ws) c = some o := fun c o n h => by
    rw [upd_ne (show c ≠ a from fun z => n (by rw [z]; exact g2))]; exact h
  have rl : Rel (ownAV D.A0 σ ρ) H (ownAV D.A0 σ (ρ.set i (Sl.own zs))) (upd H a (.lst ws)) := ⟨kp, fun c z => .inl ((sub c).1 z)⟩
  refine ⟨⟨⟨⟨by simp [A.at_.env.len], fun j d h => ?_, fun j us h => ?_⟩, ?_, fun c o n h => ?_, fun c z => ?_, fun c z => (sub c).2 (A.at_.vol c z), fun c z => .inl z⟩, fun j k us vs c h1 h2 h3 h4 => ?_, fun j us c h1 h2 => ?_⟩, rl⟩
  · obtain ⟨n, h⟩ := set_own_dat h
    obtain ⟨u, h1, h2⟩ := A.at_.env.dat j d h
    exact ⟨u, h1, Rp.rel rl d h2⟩
  · rcases set_own_own h with ⟨rfl, l, rfl⟩ | ⟨n, h⟩
    · exact ⟨a, ws, ha, (sub a).2 g2, g3, upd_same, RpAll.rel rl us r⟩
    · obtain ⟨c, vs, h1, h2, h3, h4, h5⟩ := A.at_.env.own j us h
      have ne : c ≠ a := fun z => n (A.dist j i us xs a h hi (z ▸ h1) ha)
      exact ⟨c, vs, h1, (sub c).2 h2, h3, by rw [upd_ne ne]; exact h4, RpAll.rel rl us h5⟩
  · refine D.C.anti (fun c z => (sub c).1 z) (D.C.keep A.at_.inv fun c o z h => ?_)
    rw [upd_ne ?_]
    · exact h
    · rintro rfl
      exact z.elim g3 fun n => n g2
  · have := A.at_.ext c o n h
    rw [upd_ne ?_]
    · exact this
    · rintro rfl
      have := (A.fresh i xs c hi ha).2
      rw [h] at this; cases this
  · by_cases e : c = a
    · subst e; rw [upd_same]; exact fun z => by cases z
    · rw [upd_ne e]; exact A.at_.trk c ((sub c).1 z)
  · have one : ∀ (m : Nat) (us : List Dat), (ρ.set i (Sl.own zs))[m]? = some (Sl.own us) → ∃ us, ρ[m]? = some (Sl.own us) := fun m us g => by
      rcases set_own_own g with ⟨rfl, l, rfl⟩ | ⟨n, g⟩
      · exact ⟨xs, hi⟩
      · exact ⟨us, g⟩
    obtain ⟨u1, f1⟩ := one j us h1
    obtain ⟨u2, f2⟩ := one k vs h2
    exact A.dist j k u1 u2 c f1 f2 h3 h4
  · rcases set_own_own h1 with ⟨rfl, l, rfl⟩ | ⟨n, h1⟩
    · exact A.fresh j xs c hi h2
    · exact A.fresh j us c h1 h2
/-- the list at a name is from now on data like any other -/
theorem AtS.dem {i : Nat} {xs : List Dat} (A : AtS D K σ H ρ s) (hi : ρ[i]? = some (Sl.own xs)) :
    AtS D K σ H (ρ.set i (Sl.dat (.lst xs))) s ∧ Rel (ownAV D.A0 σ ρ) H (ownAV D.A0 σ (ρ.set i (Sl.dat (.lst xs)))) H := by
  obtain ⟨a, ys, g1, g2, g3, g4, g5⟩ := A.at_.env.own i xs hi
  have sub : ∀ c, ownAV D.A0 σ (ρ.set i (Sl.dat (.lst xs))) c → ownAV D.A0 σ ρ c ∧ c ≠ a := fun c z => by
    rcases z with z | ⟨j, us, h1, h2⟩
    · exact ⟨.inl z, fun e => (A.fresh i xs a hi g1).1 (e ▸ z)⟩
    · obtain ⟨n, h1⟩ := set_get_own h1
      exact ⟨.inr ⟨j, us, h1, h2⟩, fun e => n (A.dist j i us xs a h1 hi (e ▸ h2) g1)⟩
  have rl : Rel (ownAV D.A0 σ ρ) H (ownAV D.A0 σ (ρ.set i (Sl.dat (.lst xs)))) H := ⟨fun _ _ _ h => h, fun c z => .inl (sub c z).1⟩
  refine ⟨⟨⟨⟨by simp [A.at_.env.len], fun j d h => ?_, fun j us h => ?_⟩, D.C.anti (fun c z => (sub c z).1) A.at_.inv, A.at_.ext, fun c z => A.at_.trk c (sub c z).1, fun c z => ?_, fun c z => .inl z⟩, fun j k us vs c h1 h2 h3 h4 => ?_, fun j us c h1 h2 => ?_⟩, rl⟩
  · by_cases e : i = j
    · subst e
      rw [List.getElem?_set_self (Lk.lt hi)] at h; cases h
      exact ⟨_, g1, rp_newL (fun z => (sub a z).2 rfl) g4 (RpAll.rel rl xs g5)⟩
    · rw [List.getElem?_set_ne e] at h
      obtain ⟨u, h1, h2⟩ := A.at_.env.dat j d h
      exact ⟨u, h1, Rp.rel rl d h2⟩
  · obtain ⟨n, h⟩ := set_get_own h
    obtain ⟨c, vs, h1, h2, h3, h4, h5⟩ := A.at_.env.own j us h
    exact ⟨c, vs, h1, .inr ⟨j, us, by rw [List.getElem?_set_ne (Ne.symm n)]; exact h, h1⟩, h3, h4, RpAll.rel rl us h5⟩
  · rcases A.at_.vol c z with q | ⟨j, us, h1, h2⟩
    · exact .inl q
    · obtain ⟨b, ws, q1, _, q3, _⟩ := A.at_.env.own j us h1
      rw [h2] at q1; cases q1
      exact absurd z q3
  · exact A.dist j k us vs c (set_get_own h1).2 (set_get_own h2).2 h3 h4
  · exact A.fresh j us c (set_get_own h1).2 h2
end

section
variable {S : Type} {D : DX S} {X : Cx} {a b c e e2 : Expr} {es : List Expr} {st : Stmt} {rest sa sb : List Stmt} {te tf tk : TE} {ed kd : TD S} {dF : TDA S} {tA : TA} {dA : TDA S} {t u : TS} {dt du : TDS S} {pos pos' p1 p2 cpos apos : Pos}
theorem ls_own {K : PySem.W.Frag} {i : Nat} (he : LF D K tf dF) : LS D K (tAsg tf (gName i)) (dOwn i dF) := fun σ H ρ s De E A h F => by
  refine he _ σ H ρ s _ _ A.at_ h fun p H' ds ys s' hp e ci hq r q => ?_
  obtain ⟨A', rl⟩ := A.own (i := i) hp e ci hq r
  exact F.nx _ H' _ s' A' rl q
theorem ds_own {i : Nat} {x : Str} (he : DF X D e tf dF) (hN : X.N.Nodup) (hi : X.N[i]? = some x := by rfl) (hx : Loc X.env.scope x := by first | exact .inl rfl | exact .inr rfl)
    (hs : swapsWith e (some (.Name x pos')) pos.line X.env = Pure.pure false := by rfl) (hf : X.fn x = true ∨ X.env.scope.names.lookup x = some .local := by first | exact .inl rfl | exact .inr rfl) :
    DS X D (.Assign [.Name x pos'] e pos) (tAsg tf (gName i)) (dOwn i dF) := ⟨ps_set hN hi hx he.pe hs hf, ls_own he.le⟩
theorem dss_dem {i : Nat} (h : DSs X D sa t dt) : DSs X D sa t (dDem i dt) := ⟨h.ps, fun σ H ρ s De E A hd F => by
  obtain ⟨xs, e, q⟩ := Sl.asOwn_of hd
  obtain ⟨A', rl⟩ := A.dem (look_own e)
  exact h.ls σ H _ s De E A' q (F.go rl)⟩
/-- x.append(e) -/
@[simp] def dAppend (i : Nat) (te : TD S) : TDS S := fun De ρ s => (look ρ i).asOwn fun xs => te ρ s fun y s1 => xs.length < big ∧ De.nx (ρ.set i (.own (xs ++ [y]))) s1
theorem ds_append {i : Nat} {x : Str} (he : DE X D e te ed) (hv : PE X (.Name x p1) (tVar i))
    (hbase : attributeBase (.Name x p1) "append" X.env (eval (.Name x p1) X.env) = eval (.Name x p1) X.env := by rfl)
    (hfew : ((backTo cpos (starEach (e :: []) X.env)).all (fun x => !x.1) && (backToKw cpos (keywordEach [] X.env)).all (fun x => x.1.isSome)
      && decide ((e :: []).length + ([] : List Keyword).length + (if ([] : List Keyword).isEmpty then 0 else 1) < 30)) = true := by rfl)
    (hline : (apos.endLine == cpos.line) = true := by rfl) (hs : starEach (e :: []) X.env = (false, eval e X.env) :: starEach [] X.env := by rfl) (hplain : (backTo cpos (starEach [] X.env)).any (·.1) = false := by rfl)
    (hsw : swapsWith (.Call (.Attribute (.Name x p1) "append" apos) [e] [] cpos) none pos.line X.env = Pure.pure false := by rfl) :
    DS X D (.Expr (.Call (.Attribute (.Name x p1) "append" apos) [e] [] cpos) pos) (tDrop (tBM X.K "list" rAppend (tVar i) (tCons te tNil))) (dAppend i ed) :=
  ⟨ps_expr (pe_bm PySem.F.plainAttrs_list PySem.F.slot_list_append PySem.F.type_list_append mt_append hv (pa_cons he.pe pa_nil hs) hbase hfew hline hs hplain) hsw, fun σ H ρ s De E A h F => by
  obtain ⟨xs, ex, h⟩ := Sl.asOwn_of h
  have hi := look_own ex
  obtain ⟨a, ys, g1, g2, g3, g4, g5⟩ := A.at_.env.own i xs hi
  refine ⟨_, g1, .inl ⟨rfl, ys, .inl (.inl g4)⟩, ?_⟩
  refine he.le _ σ H ρ s _ _ A.at_ h fun v H1 d s1 e1 i1 r1 q1 => ?_
  have A1 := A.go e1 i1
  have g4' : H1 a = some (.lst ys) := e1 a _ g3 g4
  have g5' : RpAll X.K (ownAV D.A0 σ ρ) H1 xs ys := RpAll.rel (e1.rel A.at_) xs g5
  refine ⟨a, ys, v, rfl, rfl, g4', by rw [g5.len, big_eq]; exact q1.1, ?_⟩
  obtain ⟨A2, rl⟩ := A1.mut hi g1 (g5'.append (.cons r1 .nil))
  exact F.nx _ _ _ s1 A2 ((e1.rel A.at_).trans rl) q1.2⟩
/-- x.extend(e), e a list -/
def rExtR : V → List V → Hp → VK → Prop := fun x vs H Q => ∃ l b xs zs, x = .ref l ∧ vs = [.ref b] ∧ H l = some (.lst xs) ∧ Rd H b (.lst zs) ∧ xs.length + zs.length ≤ sizeLine ∧ Q .non (upd H l (.lst (xs ++ zs)))
theorem mt_extR : MtR X "list.extend" rExtR := by
  intro pins s σ H x vs v us Q I rx rv h
  obtain ⟨l, b, xs, zs, rfl, rfl, hH, hB, hz, q⟩ := h
  cases rx
  obtain ⟨u, rfl, ru⟩ := rv.one
  cases ru
  obtain ⟨_, its, n, r, hl, e⟩ := I.lstM hH
  obtain ⟨_, its2, n2, r2, e2⟩ := Inv.lstR I hB
  have hl2 := r2.length
  have w1 : its.toArray.size + its2.toArray.size ≤ sizeLine := by simp only [List.size_toArray]; omega
  have w2 : ¬ (!its.toArray.isEmpty && Builtin.List.listTooLong (its.toArray.size + its2.toArray.size)) = true := by rw [notLongL w1]; simp
  refine call_meets F.slot_list_extend ⟨_, e, rfl⟩ F.entry_list_extend (F.args_list_extend_2 _ _) (AutoSeq1.list_extend_list_list_0 l its.toArray n b its2.toArray n2 w2 (by simp only [List.size_toArray]; omega) (by omega)) ⟨e, e2, ?_⟩
  exact ⟨.non, _, I.lset (its' := its ++ its2) hH e (by simp) (r.append r2) (by rw [List.length_append]; exact hz), rfl, q⟩
@[simp] def asL : Dat → (List Dat → Prop) → Prop
  | .lst b, k => k b
  | _, _ => False
theorem asL_of {x : Dat} {k : List Dat → Prop} (h : asL x k) : ∃ b, x = .lst b ∧ k b := by
  cases x with
  | lst b => exact ⟨b, rfl, h⟩
  | _ => exact h.elim
@[simp] def dExtend (i : Nat) (te : TD S) : TDS S := fun De ρ s => (look ρ i).asOwn fun xs => te ρ s fun y s1 => asL y fun ys => xs.length + ys.length ≤ big ∧ De.nx (ρ.set i (.own (xs ++ ys))) s1
theorem ds_extend {i : Nat} {x : Str} (he : DE X D e te ed) (hv : PE X (.Name x p1) (tVar i))
    (hbase : attributeBase (.Name x p1) "extend" X.env (eval (.Name x p1) X.env) = eval (.Name x p1) X.env := by rfl)
    (hfew : ((backTo cpos (starEach (e :: []) X.env)).all (fun x => !x.1) && (backToKw cpos (keywordEach [] X.env)).all (fun x => x.1.isSome)
      && decide ((e :: []).length + ([] : List Keyword).length + (if ([] : List Keyword).isEmpty then 0 else 1) < 30)) = true := by rfl)
    (hline : (apos.endLine == cpos.line) = true := by rfl) (hs : starEach (e :: []) X.env = (false, eval e X.env) :: starEach [] X.env := by rfl) (hplain : (backTo cpos (starEach [] X.env)).any (·.1) = false := by rfl)
    (hsw : swapsWith (.Call (.Attribute (.Name x p1) "extend" apos) [e] [] cpos) none pos.line X.env = Pure.pure false := by rfl) :
    DS X D (.Expr (.Call (.Attribute (.Name x p1) "extend" apos) [e] [] cpos) pos) (tDrop (tBM X.K "list" rExtR (tVar i) (tCons te tNil))) (dExtend i ed) :=
  ⟨ps_expr (pe_bm PySem.F.plainAttrs_list PySem.F.slot_list_extend PySem.F.type_list_extend mt_extR hv (pa_cons he.pe pa_nil hs) hbase hfew hline hs hplain) hsw, fun σ H ρ s De E A h F => by
  obtain ⟨xs, ex, h⟩ := Sl.asOwn_of h
  have hi := look_own ex
  obtain ⟨a, ys, g1, g2, g3, g4, g5⟩ := A.at_.env.own i xs hi
  refine ⟨_, g1, .inl ⟨rfl, ys, .inl (.inl g4)⟩, ?_⟩
  refine he.le _ σ H ρ s _ _ A.at_ h fun v H1 d s1 e1 i1 r1 q1 => ?_
  have A1 := A.go e1 i1
  obtain ⟨ds, rfl, hz, q1⟩ := asL_of q1
  unfold Rp at r1
  obtain ⟨b, ws, rfl, r1, r2⟩ := r1
  have g4' : H1 a = some (.lst ys) := e1 a _ g3 g4
  have g5' : RpAll X.K (ownAV D.A0 σ ρ) H1 xs ys := RpAll.rel (e1.rel A.at_) xs g5
  refine ⟨a, b, ys, ws, rfl, rfl, g4', r1.2, by rw [g5.len, r2.len, big_eq]; exact hz, ?_⟩
  obtain ⟨A2, rl⟩ := A1.mut hi g1 (g5'.append r2)
  exact F.nx _ _ _ s1 A2 ((e1.rel A.at_).trans rl) q1⟩
/-- x[k] = e -/
@[simp] def dSetIx (i : Nat) (te tk : TD S) : TDS S := fun De ρ s => (look ρ i).asOwn fun xs => te ρ s fun y s1 => tk ρ s1 fun k s2 => asI k fun k => ∃ j, ixN xs.length k = some j ∧ De.nx (ρ.set i (.own (xs.set j y))) s2
theorem ds_setix {i : Nat} {x : Str} (he : DE X D e te ed) (hv : PE X (.Name x p1) (tVar i)) (hk : DE X D e2 tk kd)
    (ha : ∀ v, assign (.Subscript (.Name x p1) e2 p2) X.env v = (do
      let ov ← holding [v] (eval (.Name x p1) X.env)
      let iv ← holding [v, ov] (eval e2 X.env)
      standAt p2
      holding [v, ov, iv] (setItem ov iv v)
      release [v, ov, iv] []) := by intro _; rfl)
    (hs : swapsWithSole [.Subscript (.Name x p1) e2 p2] e pos.line X.env = Pure.pure false := by rfl) (hw : swappedStores [.Subscript (.Name x p1) e2 p2] e X.env = Pure.pure none := by rfl)
    (h1 : (assignEach [.Subscript (.Name x p1) e2 p2] X.env).map (·.2) = [assign (.Subscript (.Name x p1) e2 p2) X.env] := by rfl) :
    DS X D (.Assign [.Subscript (.Name x p1) e2 p2] e pos) (tAsg te (gSub (tVar i) tk rSetL)) (dSetIx i ed kd) :=
  ⟨ps_asg he.pe (pg_sub hv hk.pe set_list ha) hs hw h1, fun σ H ρ s De E A h F => by
  obtain ⟨xs, ex, h⟩ := Sl.asOwn_of h
  have hi := look_own ex
  obtain ⟨a, ys, g1, g2, g3, g4, g5⟩ := A.at_.env.own i xs hi
  refine he.le _ σ H ρ s _ _ A.at_ h fun v H1 d s1 e1 i1 r1 q1 => ?_
  have A1 := A.go e1 i1
  refine ⟨_, g1, ?_⟩
  refine hk.le _ σ H1 ρ s1 _ _ A1.at_ q1 fun w H2 dk s2 e2 i2 r2 q2 => ?_
  have A2 := A1.go e2 i2
  obtain ⟨k, rfl, j, hj, q2⟩ := asI_of q2
  unfold Rp at r2; subst r2
  have g4' : H2 a = some (.lst ys) := e2 a _ g3 (e1 a _ g3 g4)
  have g5' : RpAll X.K (ownAV D.A0 σ ρ) H2 xs ys := RpAll.rel ((e1.trans e2).rel A.at_) xs g5
  refine ⟨a, ys, k, j, rfl, rfl, g4', by rw [g5.len]; exact hj, ?_⟩
  obtain ⟨A3, rl⟩ := A2.mut hi g1 (g5'.set j (Rp.rel (e2.rel A1.at_) d r1))
  exact F.nx _ _ _ s2 A3 (((e1.trans e2).rel A.at_).trans rl) q2⟩
/-- y = x.pop() -/
@[simp] def dPop (i j : Nat) : TDS S := fun De ρ s => (look ρ j).asOwn fun xs => ∃ d, xs[xs.length - 1]? = some d ∧ De.nx ((ρ.set j (.own xs.dropLast)).set i (.dat d)) s
theorem RpAll.dropLast {K : PySem.W.Frag} {AV : Av} {H : Hp} {ds : List Dat} {vs : List V} (h : RpAll K AV H ds vs) : RpAll K AV H ds.dropLast vs.dropLast := by
  rw [List.dropLast_eq_take, List.dropLast_eq_take, h.len]
  exact h.take _
theorem ds_pop {i j : Nat} {x y : Str} (hv : PE X (.Name x p1) (tVar j)) (hN : X.N.Nodup) (hi : X.N[i]? = some y := by rfl) (hx : Loc X.env.scope y := by first | exact .inl rfl | exact .inr rfl)
    (hs : swapsWith (.Call (.Attribute (.Name x p1) "pop" apos) [] [] cpos) (some (.Name y pos')) pos.line X.env = Pure.pure false := by rfl) (hf : X.fn y = true ∨ X.env.scope.names.lookup y = some .local := by first | exact .inl rfl | exact .inr rfl)
    (hbase : attributeBase (.Name x p1) "pop" X.env (eval (.Name x p1) X.env) = eval (.Name x p1) X.env := by rfl) (hline : (apos.endLine == cpos.line) = true := by rfl) :
    DS X D (.Assign [.Name y pos'] (.Call (.Attribute (.Name x p1) "pop" apos) [] [] cpos) pos) (tAsg (tBM0 X.K "list" rPop (tVar j)) (gName i)) (dPop i j) :=
  ⟨ps_set hN hi hx (pe_bm0 PySem.F.plainAttrs_list PySem.F.slot_list_pop PySem.F.type_list_pop mt_pop hv hbase hline) hs hf, fun σ H ρ s De E A h F => by
  obtain ⟨xs, ex, d, hd, h⟩ := Sl.asOwn_of h
  have hj := look_own ex
  obtain ⟨a, ys, g1, g2, g3, g4, g5⟩ := A.at_.env.own j xs hj
  obtain ⟨v, h1, h2⟩ := RpAll.get g5 hd
  refine ⟨_, g1, .inl ⟨rfl, ys, .inl (.inl g4)⟩, a, ys, v, rfl, rfl, g4, by rw [g5.len]; exact h1, ?_⟩
  obtain ⟨A1, rl⟩ := A.mut hj g1 g5.dropLast
  refine F.nx _ _ _ s (A1.set (Rp.rel rl d h2)) (rl.trans ⟨fun _ _ _ h => h, fun a z => .inl (ownAV_set a z)⟩) h⟩
end
end Dl

/-! targets, what is walked, for, while, comprehensions -/
namespace Dl
open PySem PySem.Spec PyProof.Rows L2

/-- the slots outside is are as they were; none of is is a name's alone -/
structure Kept (is : List Nat) (σ : Sg) (ρ : List Sl) (σ' : Sg) (ρ' : List Sl) : Prop where
  l1 : σ'.length = σ.length
  l2 : ρ'.length = ρ.length
  out : ∀ j, j ∉ is → σ'[j]? = σ[j]? ∧ ρ'[j]? = ρ[j]?
  own : ∀ j, j ∈ is → ∀ xs, ρ'[j]? = some (Sl.own xs) → σ'[j]? = σ[j]? ∧ ρ'[j]? = ρ[j]?
abbrev TDG := Dat → List Sl → (List Sl → Prop) → Prop
abbrev TDGs := List Dat → List Sl → (List Sl → Prop) → Prop
section
variable {S : Type}
def LG (D : DX S) (K : PySem.W.Frag) (g : TG) (gd : TDG) (is : List Nat) : Prop := ∀ AV v d σ H ρ s (Qd : List Sl → Prop) (Q : Sg → Hp → Prop), At D K AV σ H ρ s → Rp K AV H d v → gd d ρ Qd →
  (∀ σ' ρ', At D K AV σ' H ρ' s → Kept is σ ρ σ' ρ' → Qd ρ' → Q σ' H) → g v σ H Q
def LGs (D : DX S) (K : PySem.W.Frag) (g : TGs) (gd : TDGs) (is : List Nat) : Prop := ∀ AV v d σ H ρ s (Qd : List Sl → Prop) (Q : Sg → Hp → Prop), At D K AV σ H ρ s → RpAll K AV H d v → gd d ρ Qd →
  (∀ σ' ρ', At D K AV σ' H ρ' s → Kept is σ ρ σ' ρ' → Qd ρ' → Q σ' H) → g v σ H Q
structure DG (X : Cx) (D : DX S) (tg : Expr) (g : TG) (gd : TDG) (is : List Nat) : Prop where
  pg : PG X tg g
  lg : LG D X.K g gd is
structure DGs (X : Cx) (D : DX S) (tg : List Expr) (g : TGs) (gd : TDGs) (is : List Nat) : Prop where
  pg : PGs X tg g
  lg : LGs D X.K g gd is
end
@[simp] def gdName (i : Nat) : TDG := fun d ρ Q => Q (ρ.set i (.dat d))
@[simp] def gdNil : TDGs := fun ds ρ Q => ds = [] ∧ Q ρ
@[simp] def gdCons (t : TDG) (u : TDGs) : TDGs := fun ds ρ Q => match ds with
  | d :: r => t d ρ fun ρ' => u r ρ' Q
  | [] => False
@[simp] def gdTup (n : Nat) (t : TDGs) : TDG := fun d ρ Q => match d with
  | .tup xs => xs.length = n ∧ t xs ρ Q
  | _ => False
section
variable {S : Type} {D : DX S} {X : Cx} {K : PySem.W.Frag} {e : Expr} {es : List Expr} {g : TG} {gs : TGs} {gd : TDG} {gds : TDGs} {is js : List Nat} {pos : Pos}
theorem Kept.trans {is js : List Nat} {σ σ1 σ2 : Sg} {ρ ρ1 ρ2 : List Sl} (a : Kept is σ ρ σ1 ρ1) (b : Kept js σ1 ρ1 σ2 ρ2) : Kept (is ++ js) σ ρ σ2 ρ2 := by
  refine ⟨b.l1.trans a.l1, b.l2.trans a.l2, fun j n => ?_, fun j n xs h => ?_⟩
  · rw [List.mem_append, not_or] at n
    exact ⟨(b.out j n.2).1.trans (a.out j n.1).1, (b.out j n.2).2.trans (a.out j n.1).2⟩
  · have h1 : σ2[j]? = σ1[j]? ∧ ρ2[j]? = ρ1[j]? := by
      by_cases m : j ∈ js
      · exact b.own j m xs h
      · exact b.out j m
    have h2 : σ1[j]? = σ[j]? ∧ ρ1[j]? = ρ[j]? := by
      by_cases m : j ∈ is
      · exact a.own j m xs (h1.2.symm.trans h)
      · exact a.out j m
    exact ⟨h1.1.trans h2.1, h1.2.trans h2.2⟩
theorem Kept.one {i : Nat} {σ : Sg} {ρ : List Sl} {v : V} {d : Dat} : Kept [i] σ ρ (σ.set i (some v)) (ρ.set i (Sl.dat d)) :=
  ⟨by simp, by simp, fun j n => by
    have ne : i ≠ j := fun e => n (by simp [e])
    exact ⟨List.getElem?_set_ne ne, List.getElem?_set_ne ne⟩, fun j m xs h => by
    have e : j = i := by simpa using m
    obtain ⟨n, _⟩ := set_get_own h
    exact absurd e n⟩
theorem dg_name {i : Nat} {x : Str} (hN : X.N.Nodup) (hi : X.N[i]? = some x := by rfl) (hx : Loc X.env.scope x := by first | exact .inl rfl | exact .inr rfl) (hf : X.fn x = true ∨ X.env.scope.names.lookup x = some .local := by first | exact .inl rfl | exact .inr rfl) :
    DG X D (.Name x pos) (gName i) (gdName i) [i] := ⟨pg_name hN hi hx hf, fun AV v d σ H ρ s Qd Q A r h k => k _ _ (A.set r) .one h⟩
theorem dgs_nil : DGs X D [] gNil gdNil [] := ⟨pgs_nil, fun AV v d σ H ρ s Qd Q A r h k => by
  obtain ⟨rfl, h⟩ := h
  unfold RpAll at r
  exact ⟨r, k σ ρ A ⟨rfl, rfl, fun j _ => ⟨rfl, rfl⟩, fun j m => (nomatch m)⟩ h⟩⟩
theorem dgs_cons (h1 : DG X D e g gd is) (h2 : DGs X D es gs gds js) (hs : (assignEach (e :: es) X.env).map (·.2) = assign e X.env :: (assignEach es X.env).map (·.2) := by rfl) : DGs X D (e :: es) (gCons g gs) (gdCons gd gds) (is ++ js) :=
  ⟨pgs_cons h1.pg h2.pg hs, fun AV v d σ H ρ s Qd Q A r h k => by
  cases d with
  | nil => exact h.elim
  | cons d ds =>
    unfold RpAll at r
    obtain ⟨u, us, rfl, r1, r2⟩ := r
    refine ⟨u, us, rfl, h1.lg AV u d σ H ρ s _ _ A r1 h fun σ1 ρ1 A1 k1 q1 => ?_⟩
    exact h2.lg AV us ds σ1 H ρ1 s _ _ A1 r2 q1 fun σ2 ρ2 A2 k2 q2 => k σ2 ρ2 A2 (k1.trans k2) q2⟩
theorem dg_tup {k n : Nat} (hc : X.calm = true) (h : DGs X D es gs gds is) (hn : (assignEach es X.env).length = n := by rfl) (hst : (assignEach es X.env).findIdx? (·.1) = none := by rfl) : DG X D (.Tuple es k pos) (gTup X.K n gs) (gdTup n gds) is :=
  ⟨pg_tup hc h.pg hn hst, fun AV v d σ H ρ s Qd Q A r hd kk => by
  cases d with
  | tup xs =>
    unfold Rp at r
    obtain ⟨a, ys, rfl, r1, r2⟩ := r
    exact ⟨a, ys, rfl, r1.sq, by rw [r2.len]; exact hd.1, h.lg AV ys xs σ H ρ s _ _ A r2 hd.2 kk⟩
  | _ => exact hd.elim⟩
theorem AtS.kept {σ σ' : Sg} {H : Hp} {ρ ρ' : List Sl} {s : S} (A : AtS D K σ H ρ s) (B : At D K (ownAV D.A0 σ ρ) σ' H ρ' s) (k : Kept is σ ρ σ' ρ') : AtS D K σ' H ρ' s ∧ ∀ a, ownAV D.A0 σ' ρ' a → ownAV D.A0 σ ρ a := by
  have old : ∀ (j : Nat) (xs : List Dat) (a : Addr), ρ'[j]? = some (Sl.own xs) → σ'[j]? = some (some (V.ref a)) → ρ[j]? = some (Sl.own xs) ∧ σ[j]? = some (some (V.ref a)) := fun j xs a h1 h2 => by
    have h : σ'[j]? = σ[j]? ∧ ρ'[j]? = ρ[j]? := by
      by_cases m : j ∈ is
      · exact k.own j m xs h1
      · exact k.out j m
    exact ⟨h.2.symm.trans h1, h.1.symm.trans h2⟩
  have sub : ∀ a, ownAV D.A0 σ' ρ' a → ownAV D.A0 σ ρ a := fun a z => by
    rcases z with z | ⟨j, xs, h1, h2⟩
    · exact .inl z
    · obtain ⟨g1, g2⟩ := old j xs a h1 h2
      exact .inr ⟨j, xs, g1, g2⟩
  refine ⟨⟨B.anti sub (fun a z => .inl z) (fun a z => ?_) fun j xs a h1 h2 => .inr ⟨j, xs, h1, h2⟩, fun j l xs ys a h1 h2 h3 h4 => ?_, fun j xs a h1 h2 => ?_⟩, sub⟩
  · rcases A.at_.vol a z with q | ⟨j, xs, h1, h2⟩
    · exact .inl q
    · obtain ⟨b, ys, g1, _, g3, _⟩ := A.at_.env.own j xs h1
      rw [h2] at g1; cases g1
      exact absurd z g3
  · obtain ⟨g1, g2⟩ := old j xs a h1 h3
    obtain ⟨g3, g4⟩ := old l ys a h2 h4
    exact A.dist j l xs ys a g1 g3 g2 g4
  · obtain ⟨g1, g2⟩ := old j xs a h1 h2
    exact A.fresh j xs a g1 g2
end

/-! ### assignment to a target -/
section
variable {S : Type} {D : DX S} {X : Cx} {e tg : Expr} {te : TE} {ed : TD S} {g : TG} {gd : TDG} {is : List Nat} {pos : Pos}
@[simp] def dAsg (te : TD S) (g : TDG) : TDS S := fun De ρ s => te ρ s fun d s1 => g d ρ fun ρ' => De.nx ρ' s1
theorem ds_asg (he : DE X D e te ed) (hg : DG X D tg g gd is) (hs : swapsWithSole [tg] e pos.line X.env = Pure.pure false := by rfl) (hw : swappedStores [tg] e X.env = Pure.pure none := by rfl)
    (h1 : (assignEach [tg] X.env).map (·.2) = [assign tg X.env] := by rfl) : DS X D (.Assign [tg] e pos) (tAsg te g) (dAsg ed gd) := ⟨ps_asg he.pe hg.pg hs hw h1, fun σ H ρ s De E A h F => by
  refine he.le _ σ H ρ s _ _ A.at_ h fun v H1 d s1 e1 i1 r1 q1 => ?_
  have A1 := A.go e1 i1
  refine hg.lg _ v d σ H1 ρ s1 _ _ A1.at_ r1 q1 fun σ' ρ' B k q => ?_
  obtain ⟨A2, sub⟩ := A1.kept B k
  exact F.nx _ _ _ _ A2 ((e1.rel A.at_).trans ⟨fun _ _ _ h => h, fun a z => .inl (sub a z)⟩) q⟩
end

/-! ### what is walked -/
/-- the walk gives the items, in order -/
def JOk (K : PySem.W.Frag) (AV : Av) (J : It) (H : Hp) (items : List Dat) : Prop := ∀ i AV2 H2, Rel AV H AV2 H2 → (∀ a, AV2 a → H2 a ≠ none) →
  (i < items.length → J.go i H2) ∧ (items.length ≤ i → J.stop i H2) ∧ (i < items.length → ∀ x H3, J.yld i H2 x H3 → ∃ d, items[i]? = some d ∧ Same H2 H3 ∧ Rp K AV2 H3 d x)
abbrev TDI (S : Type) := List Sl → S → (List Dat → S → Prop) → Prop
section
variable {S : Type}
def LI (D : DX S) (K : PySem.W.Frag) (wi : TI) (di : TDI S) : Prop := ∀ AV σ H ρ s (Rd : List Dat → S → Prop) (R : It → Hp → Prop), At D K AV σ H ρ s → di ρ s Rd →
  (∀ J H' items s', ExtB D.C.vs H H' → D.C.I AV s' H' → JOk K AV J H' items → Rd items s' → R J H') → wi σ H R
structure DI (X : Cx) (D : DX S) (tg iter : Expr) (wi : TI) (di : TDI S) : Prop where
  pi : PI X tg iter wi
  li : LI D X.K wi di
end
end Dl

/-! what is walked, further; for, while, comprehensions -/
namespace Dl
open PySem PySem.Spec PyProof.Rows L2

/-! ### an iterator of new tuples over texts -/
/-- new tuples of the values f i, n of them -/
def Itw (n : Nat) (f : Nat → List V) : It := ⟨fun i _ => i < n, fun i H v H' => ∃ T, v = .ref T ∧ H T = none ∧ H' = upd H T (.tup (f i)), fun i _ => n ≤ i⟩
theorem turn_walks {P : Program} {w : World} {K : PySem.W.Frag} {elts : List Expr} {kk : Nat} {tpos : Pos} {I : Addr} {fp wr : List Addr} {n : Nat} {Pt : Nat → Array Value → Prop} {St : Nat → Heap → Prop} {Mid : Nat → Addr → Heap → Prop} {f : Nat → List V}
    (W : ∀ A : Around, A.handled = none → WalksT P w A I fp wr n Pt St Mid) (hI : I ∈ fp) (hobj : ∀ i h, St i h → ∀ b ∈ fp, ∃ o, h.get? b = some o ∧ ∀ v, o.data ≠ .cell v)
    (hv : ∀ i vals, Pt i vals → Vals (f i) vals.toList ∧ (f i).length ≤ sizeLine)
    (hself : ∀ (A : Around) (i : Nat) (s : Shared) (Q : Value → Shared → Prop) (E : Value → Shared → Prop), St i s.heap → Q (.ref I) s → wpAny (model P w) A (pyIter (.ref I)) Q E s) : Turn P w K (.Tuple elts kk tpos) (Itw n f) fp I (fun i h => i ≤ n ∧ St i h) where
  mem := hI
  obj := fun i h st b hb => hobj i h st.2 b hb
  keep := fun i h h' st k => ⟨st.1, (W callerA rfl).frame i h h' st.2 k⟩
  item := by
    intro X hP hw hK hc i pins s σ H E J hf st hg
    subst hP hw hK
    have Z := W X.A (J.ok.hd hc)
    refine Z.item i s _ _ hg st.2 fun T vals h' tk hp hT ht mid k => ⟨.ref T, rfl, ?_⟩
    refine Z.go elts kk tpos i T { s with heap := h', toks := tk } _ _ mid fun h'' st'' k'' => ?_
    obtain ⟨rv, hz⟩ := hv i vals hp
    have hT'' : h''.IsTuple T vals := ht.at fun o e => k'' T o (Z.apart i T h' mid) e
    have new : ObjOk X.prog X.w (upd H T (.tup (f i))) h'' T (.tup (f i)) := ⟨hz, vals.toList, rv, by
      have e : vals.toList.toArray = vals := by simp
      rw [e]; exact hT''⟩
    refine ⟨.ref T, _, J.turnedNew (ch := wr) (t' := tk) (fun b o hb q => k'' b o hb (k b o hb q)) (fun b hb => hf b (Z.sub b hb)) hT new, rfl, ⟨T, rfl, J.hok.fresh hT, rfl⟩, ⟨hg, st''⟩, fun b hb => ?_⟩
    rw [upd_ne (fun z => ?_)]
    · exact (hf b hb).1
    · obtain ⟨o, ho, _⟩ := hobj i s.heap st.2 b hb
      exact absurd (Heap.lt_size ho) (Nat.not_lt.mpr (z ▸ hT))
  done := by
    intro X hP hw hK hc i pins s σ H E J hf st hg
    subst hP hw hK
    have Z := W X.A (J.ok.hd hc)
    have hin : i = n := Nat.le_antisymm st.1 hg
    subst hin
    exact Z.done s _ _ st.2 fun h' tk k => ⟨rfl, J.turnedL (ch := wr) (t' := tk) k fun b hb => hf b (Z.sub b hb)⟩
  self := fun A i s Q E st h => hself A i s Q E st.2 h
theorem walks_it {X : Cx} {tg : Expr} {pins : List (Addr × Obj)} {s1 : Shared} {σ : Sg} {H1 : Hp} {R : It → Hp → Prop} {h' : Heap} {I : Addr} {fp : List Addr} {n : Nat} {f : Nat → List V} {tn : Nat → Heap → Prop} {tk : Nat}
    (J : Inv X pins σ H1 s1) (T : Turn X.prog X.w X.K tg (Itw n f) fp I tn) (st : tn 0 h') (hk : ∀ b o, s1.heap.get? b = some o → h'.get? b = some o) (hn : ∀ b ∈ fp, s1.heap.objs.size ≤ b) (q : R (Itw n f) H1) : PIE X pins σ tg R (.ref I) { s1 with heap := h', toks := tk } :=
  ⟨I, fp, tn, Itw n f, H1, rfl, J.kept hk, T, st, fun b hb => J.fpOk (hn b hb) (J.hok.fresh (hn b hb)), q⟩

/-! enumerate(text), zip(text, text) -/
def sg (l : List Nat) (i : Nat) : V := .str ⟨#[l.getD i 0]⟩
def itES (l : List Nat) : It := Itw l.length fun i => [.int (i : Nat), sg l i]
def itZS (a b : List Nat) : It := Itw (min a.length b.length) fun i => [sg a i, sg b i]
def iEnumS (ta : TA) : TI := fun σ H R => ta σ H fun vs H1 => ∃ l, vs = [.str (tx l)] ∧ R (itES l) H1
def iZipS (ta : TA) : TI := fun σ H R => ta σ H fun vs H1 => ∃ a b, vs = [.str (tx a), .str (tx b)] ∧ R (itZS a b) H1
theorem sg_rel {l : List Nat} {i : Nat} {v : Value} (h : SignAt (tx l) i v) : RelV (sg l i) v := by
  obtain ⟨c, u, e, rfl⟩ := h
  have e2 : l[i]? = some c := by simpa [tx] using e
  refine ⟨u, ?_⟩
  rw [List.getD_eq_getElem?_getD, e2]
  rfl
theorem pi_enumS {X : Cx} {e : Expr} {ta : TA} {p pos tpos : Pos} {elts : List Expr} {kk : Nat} (hg : Gl X "enumerate") (hm : X.mg "enumerate" = none) (ha : PA X [e] ta) (hs : starEach [e] X.env = [(false, eval e X.env)] := by rfl) :
    PI X (.Tuple elts kk tpos) (.Call (.Name "enumerate" p) [e] [] pos) (iEnumS ta) := by
  refine ⟨fun pins s σ H R I h => ?_⟩
  refine Call_ (ld_blt I hg hm boot_enumerate (PyProof.Rows.callWith_type1 (thn (ha.run pos pins s σ H _ I h) fun us s1 ⟨vs, H1, I1, r1, q1⟩ => ?_) hs rfl))
  obtain ⟨l, ex, q⟩ := q1
  subst ex
  cases r1 with
  | cons r rr =>
    cases rr
    obtain ⟨t, rfl⟩ := r
    refine call_enumerate_str fun h' he hit hsz hk => wpAny_pyIter_enum he ?_
    refine walks_it (tk := s1.toks) I1 (turn_walks (n := l.length) (f := fun i => [.int (i : Nat), sg l i]) (fp := (s1.heap.objs.size + 1) :: [s1.heap.objs.size]) (wr := [s1.heap.objs.size + 1, s1.heap.objs.size])
        (Mid := fun i T h => (∃ x, IsEnumOut h (s1.heap.objs.size + 1) s1.heap.objs.size ((0 : Int) + (i : Int) + 1) x T) ∧ h.IsStrIter s1.heap.objs.size (strIterType (tx l)) (tx l) t (i + 1) ∧ T ≠ s1.heap.objs.size + 1 ∧ T ≠ s1.heap.objs.size)
      (Pt := fun i vals => ∃ t x, (∃ c u, (tx l).cps[i]? = some c ∧ x = .str ⟨#[c]⟩ u) ∧ vals = #[.int ((0 : Int) + (i : Int)) t, x])
      (St := fun i h => (∃ old, IsEnum h (s1.heap.objs.size + 1) s1.heap.objs.size ((0 : Int) + (i : Int)) old) ∧ h.IsStrIter s1.heap.objs.size (strIterType (tx l)) (tx l) t i)
      (fun A hA => ?_) (List.mem_cons_self ..) (fun i h st b hb => ?_) (fun i vals hp => ?_) fun A i s Q E st h => ?_) ⟨Nat.zero_le _, ⟨.none, he⟩, hit⟩ hk (fun b hb => ?_) q
    · have W := WalksT.enumFrom (prog := X.prog) (w := X.w) (A := A) 0 (Draws.text (by exact hA) s1.heap.objs.size (tx l) t) (s1.heap.objs.size + 1) (Nat.succ_ne_self _) (fun z => Nat.succ_ne_self _ (List.mem_singleton.mp z)) (List.mem_singleton.mpr rfl)
      have e : (tx l).cps.size = l.length := by simp [tx]
      rw [e] at W
      exact W
    · obtain ⟨⟨old, he⟩, ⟨o, ho, hc, hd⟩⟩ := st
      have e' : b = s1.heap.objs.size + 1 ∨ b = s1.heap.objs.size := by simpa using hb
      rcases e' with z | z
      · rw [z]; exact ⟨_, he, fun v q => nomatch q⟩
      · rw [z]; exact ⟨o, ho, fun v q => by rw [hd] at q; cases q⟩
    · obtain ⟨t, x, hx, rfl⟩ := hp
      refine ⟨.cons ⟨t, by simp⟩ (.cons (sg_rel hx) .nil), by rw [sizeLine_eq]; simp⟩
    · exact wpAny_pyIter_enum st.1.choose_spec h
    · have e' : b = s1.heap.objs.size + 1 ∨ b = s1.heap.objs.size := by simpa using hb
      rcases e' with z | z
      · rw [z]; exact Nat.le_add_right _ _
      · rw [z]; exact Nat.le_refl _
theorem pi_zipS {X : Cx} {e e2 : Expr} {ta : TA} {p pos tpos : Pos} {elts : List Expr} {kk : Nat} (hg : Gl X "zip") (hm : X.mg "zip" = none) (ha : PA X [e, e2] ta)
    (hs : starEach [e, e2] X.env = (false, eval e X.env) :: starEach [e2] X.env := by rfl) (hpl : (backTo pos (starEach [e2] X.env)).any (·.1) = false := by rfl) :
    PI X (.Tuple elts kk tpos) (.Call (.Name "zip" p) [e, e2] [] pos) (iZipS ta) := by
  refine ⟨fun pins s σ H R I h => ?_⟩
  refine Call_ (ld_blt I hg hm PyProof.Rows.boot_zip (PyProof.Rows.callWith_type1 (thn (ha.run pos pins s σ H _ I h) fun us s1 ⟨vs, H1, I1, r1, q1⟩ => ?_) hs hpl))
  obtain ⟨a, b, ex, q⟩ := q1
  subst ex
  cases r1 with
  | cons r rr =>
    cases rr with
    | cons r' rr =>
      cases rr
      obtain ⟨t, rfl⟩ := r
      obtain ⟨u, rfl⟩ := r'
      refine zip_begins2 (begins_text (tx a) t) (begins_text (tx b) u) trivial trivial fun h' hz hTI hTO h1 h2 hsz hk => wpAny_pyIter_zip hz ?_
      refine walks_it (tk := s1.toks) I1 (turn_walks (n := min a.length b.length) (f := fun i => [sg a i, sg b i])
        (Mid := fun i T h => IsZip h (s1.heap.objs.size + 4) (s1.heap.objs.size + 2) (s1.heap.objs.size + 3) (rawInt T) ∧ IsTupOf2 h (s1.heap.objs.size + 2) (.ref s1.heap.objs.size) (.ref (s1.heap.objs.size + 1)) ∧ (∃ a1 a2, IsTupOf2 h (s1.heap.objs.size + 3) a1 a2) ∧
          h.IsStrIter s1.heap.objs.size (strIterType (tx a)) (tx a) t (i + 1) ∧ h.IsStrIter (s1.heap.objs.size + 1) (strIterType (tx b)) (tx b) u (i + 1) ∧ T ≠ s1.heap.objs.size + 4 ∧ T ≠ s1.heap.objs.size + 3 ∧ T ≠ s1.heap.objs.size ∧ T ≠ s1.heap.objs.size + 1)
        (fp := (s1.heap.objs.size + 4) :: (s1.heap.objs.size + 2) :: (s1.heap.objs.size + 3) :: ([s1.heap.objs.size] ++ [s1.heap.objs.size + 1]))
        (wr := [s1.heap.objs.size + 4, s1.heap.objs.size + 3, s1.heap.objs.size, s1.heap.objs.size + 1])
        (Pt := fun i vals => ∃ x1 x2, (∃ c u, (tx a).cps[i]? = some c ∧ x1 = .str ⟨#[c]⟩ u) ∧ (∃ c u, (tx b).cps[i]? = some c ∧ x2 = .str ⟨#[c]⟩ u) ∧ vals = #[x1, x2])
        (St := fun i h => IsZip h (s1.heap.objs.size + 4) (s1.heap.objs.size + 2) (s1.heap.objs.size + 3) .none ∧ IsTupOf2 h (s1.heap.objs.size + 2) (.ref s1.heap.objs.size) (.ref (s1.heap.objs.size + 1)) ∧ (∃ a1 a2, IsTupOf2 h (s1.heap.objs.size + 3) a1 a2) ∧
          h.IsStrIter s1.heap.objs.size (strIterType (tx a)) (tx a) t i ∧ h.IsStrIter (s1.heap.objs.size + 1) (strIterType (tx b)) (tx b) u i)
        (fun A hA => ?_) (List.mem_cons_self ..) (fun i h st c hc => ?_) (fun i vals hp => ?_) fun A i s Q E st h => ?_)
        ⟨Nat.zero_le _, hz, hTI, ⟨_, _, hTO⟩, ⟨_, h1, rfl, rfl⟩, ⟨_, h2, rfl, rfl⟩⟩ hk (fun c hc => ?_) q
      · have W := WalksT.zipD2 (prog := X.prog) (w := X.w) (A := A) (zip_sep2 (N := s1.heap.objs.size) (fp1 := []) (fp2 := []) (fun _ h => nomatch h) (fun _ h => nomatch h))
          (Draws.text (by exact hA) s1.heap.objs.size (tx a) t) (Draws.text (by exact hA) (s1.heap.objs.size + 1) (tx b) u)
        have e : (tx a).cps.size = a.length := by simp [tx]
        have e2 : (tx b).cps.size = b.length := by simp [tx]
        rw [e, e2] at W
        exact W
      · obtain ⟨hz, hTI, ⟨_, _, hTO⟩, ⟨o, ho, hc1, hd⟩, ⟨o2, ho2, hc2, hd2⟩⟩ := st
        have e' : c = s1.heap.objs.size + 4 ∨ c = s1.heap.objs.size + 2 ∨ c = s1.heap.objs.size + 3 ∨ c = s1.heap.objs.size ∨ c = s1.heap.objs.size + 1 := by simpa using hc
        rcases e' with z | z | z | z | z
        · rw [z]; exact ⟨_, hz, fun v q => nomatch q⟩
        · rw [z]; exact ⟨_, hTI, fun v q => nomatch q⟩
        · rw [z]; exact ⟨_, hTO, fun v q => nomatch q⟩
        · rw [z]; exact ⟨o, ho, fun v q => by rw [hd] at q; cases q⟩
        · rw [z]; exact ⟨o2, ho2, fun v q => by rw [hd2] at q; cases q⟩
      · obtain ⟨x, y, hx, hy, rfl⟩ := hp
        exact ⟨.cons (sg_rel hx) (.cons (sg_rel hy) .nil), by rw [sizeLine_eq]; simp⟩
      · exact wpAny_pyIter_zip st.1 h
      · have e' : c = s1.heap.objs.size + 4 ∨ c = s1.heap.objs.size + 2 ∨ c = s1.heap.objs.size + 3 ∨ c = s1.heap.objs.size ∨ c = s1.heap.objs.size + 1 := by simpa using hc
        rcases e' with z | z | z | z | z <;> rw [z]
        · exact Nat.le_add_right _ _
        · exact Nat.le_add_right _ _
        · exact Nat.le_add_right _ _
        · exact Nat.le_refl _
        · exact Nat.le_add_right _ _
end Dl

/-! what is walked, over data; for and while -/
namespace Dl
open PySem PySem.Spec PyProof.Rows L2

/-! ### JOk of each walk -/
section
variable {K : PySem.W.Frag} {AV AV' : Av} {H H' : Hp}
/-- a list that may be read -/
def LstD (K : PySem.W.Frag) (AV : Av) (H : Hp) (a : Addr) (xs : List V) : Prop := (¬ AV a ∧ Rd H a (.lst xs)) ∨ ∀ H', SqL K H' a xs
theorem LstD.sq {a : Addr} {xs : List V} (h : LstD K AV H a xs) : SqL K H a xs := sq_of_or h
theorem LstD.rel (r : Rel AV H AV' H') {a : Addr} {xs : List V} (h : LstD K AV H a xs) : LstD K AV' H' a xs := h.imp r.rd id
@[simp] def asSeq : Dat → (List Dat → Prop) → Prop
  | .lst xs, k => k xs
  | .sq ns, k => k (ns.map .int)
  | _, _ => False
theorem rp_ints : ∀ ns : List Int, RpAll K AV H (ns.map Dat.int) (ns.map V.int)
  | [] => .nil
  | n :: ns => .cons rp_int (rp_ints ns)
theorem asSeq_of {x : Dat} {v : V} {k : List Dat → Prop} (h : asSeq x k) (r : Rp K AV H x v) : ∃ a xs ds, v = .ref a ∧ LstD K AV H a xs ∧ RpAll K AV H ds xs ∧ k ds := by
  cases x with
  | lst xs =>
    unfold Rp at r
    obtain ⟨a, ys, rfl, r1, r2⟩ := r
    exact ⟨a, ys, xs, rfl, .inl r1, r2, h⟩
  | sq ns =>
    unfold Rp at r
    obtain ⟨a, rfl, r1⟩ := r
    exact ⟨a, _, _, rfl, r1, rp_ints ns, h⟩
  | _ => exact h.elim
theorem jok_seq {a : Addr} {ds : List Dat} {xs : List V} (r : LstD K AV H a xs) (q : RpAll K AV H ds xs) : JOk K AV (Itl K a) H ds := by
  intro i AV2 H2 rl trk
  have r2 := (r.rel rl).sq
  have q2 := RpAll.rel rl ds q
  refine ⟨fun h => ?_, fun h => ⟨xs, r2, by rw [q2.len]; exact h⟩, fun hi x H3 y => ?_⟩
  · obtain ⟨v, h1, _⟩ := RpAll.get q2 (List.getElem?_eq_getElem h)
    exact ⟨xs, v, r2, h1⟩
  · obtain ⟨rfl, y⟩ := y
    obtain ⟨d, h1, h2⟩ := RpAll.get' q2 (y xs r2)
    exact ⟨d, h1, .refl _, h2⟩
theorem jok_tup {a : Addr} {ds : List Dat} {xs : List V} (r : RdT K AV H a xs) (q : RpAll K AV H ds xs) : JOk K AV (Itt K a) H ds := by
  intro i AV2 H2 rl trk
  have r2 : SqT K H2 a xs := RdT.sq (AV := AV2) (r.imp rl.rd id)
  have q2 := RpAll.rel rl ds q
  refine ⟨fun h => ?_, fun h => ⟨xs, r2, by rw [q2.len]; exact h⟩, fun hi x H3 y => ?_⟩
  · obtain ⟨v, h1, _⟩ := RpAll.get q2 (List.getElem?_eq_getElem h)
    exact ⟨xs, v, r2, h1⟩
  · obtain ⟨rfl, y⟩ := y
    obtain ⟨d, h1, h2⟩ := RpAll.get' q2 (y xs r2)
    exact ⟨d, h1, .refl _, h2⟩
def rng (lo c : Int) (n : Nat) : List Dat := (List.range n).map fun k => .int (lo + (k : Nat) * c)
theorem jok_rng {lo c : Int} {n : Nat} : JOk K AV (Itc lo c n) H (rng lo c n) := by
  intro i AV2 H2 rl trk
  have e : (rng lo c n).length = n := by simp [rng]
  rw [e]
  refine ⟨id, id, fun hi x H3 y => ?_⟩
  obtain ⟨rfl, rfl⟩ := y
  exact ⟨.int (lo + (i : Nat) * c), by simp [rng, hi], .refl _, rp_int⟩
def rng1 (lo : Int) (n : Nat) : List Dat := (List.range n).map fun k => .int (lo + (k : Nat))
theorem jok_rng1 {lo : Int} {n : Nat} : JOk K AV (Itr lo n) H (rng1 lo n) := by
  intro i AV2 H2 rl trk
  have e : (rng1 lo n).length = n := by simp [rng1]
  rw [e]
  refine ⟨id, id, fun hi x H3 y => ?_⟩
  obtain ⟨rfl, rfl⟩ := y
  exact ⟨.int (lo + (i : Nat)), by simp [rng1, hi], .refl _, rp_int⟩
def sgs (l : List Nat) : List Dat := l.map fun c => .str [c]
theorem jok_str {l : List Nat} : JOk K AV (Its (tx l)) H (sgs l) := by
  intro i AV2 H2 rl trk
  have e : (sgs l).length = l.length := by simp [sgs]
  have e2 : (tx l).cps.size = l.length := by simp [tx]
  rw [e]
  refine ⟨fun h => ?_, fun h => ?_, fun hi x H3 y => ?_⟩
  · show i < (tx l).cps.size
    rw [e2]; exact h
  · show (tx l).cps.size ≤ i
    rw [e2]; exact h
  · obtain ⟨rfl, c, hc, rfl⟩ := y
    have hc2 : l[i]? = some c := by simpa [tx] using hc
    exact ⟨.str [c], by simp [sgs, hc2], .refl _, rp_str⟩
/-- a new tuple of values -/
theorem rp_tup_new {AV2 : Av} {H2 : Hp} {T : Addr} {ds : List Dat} {xs : List V} (trk : ∀ a, AV2 a → H2 a ≠ none) (hT : H2 T = none) (r : RpAll K AV2 H2 ds xs) : Same H2 (upd H2 T (.tup xs)) ∧ Rp K AV2 (upd H2 T (.tup xs)) (.tup ds) (.ref T) :=
  ⟨Same.upd_new hT, rp_newT (fun z => trk T z hT) (by simp [upd]) (r.same (Same.upd_new hT))⟩
def enumD (xs : List Dat) : List Dat := xs.mapIdx fun i x => .tup [.int (i : Nat), x]
theorem jok_enum {a : Addr} {ds : List Dat} {xs : List V} (r : LstD K AV H a xs) (q : RpAll K AV H ds xs) : JOk K AV (Ite K a) H (enumD ds) := by
  intro i AV2 H2 rl trk
  have r2 := (r.rel rl).sq
  have q2 := RpAll.rel rl ds q
  have e : (enumD ds).length = ds.length := by simp [enumD]
  rw [e]
  refine ⟨fun h => ?_, fun h => ⟨xs, r2, by rw [q2.len]; exact h⟩, fun hi x H3 y => ?_⟩
  · obtain ⟨v, h1, _⟩ := RpAll.get q2 (List.getElem?_eq_getElem h)
    exact ⟨xs, v, r2, h1⟩
  · obtain ⟨T, u, rfl, hT, rfl, y⟩ := y
    obtain ⟨d, h1, h2⟩ := RpAll.get' q2 (y xs r2)
    obtain ⟨s1, s2⟩ := rp_tup_new trk hT (.cons rp_int (.cons h2 .nil))
    exact ⟨.tup [.int (i : Nat), d], by simp [enumD, h1], s1, s2⟩
def zipD (xs ys : List Dat) : List Dat := List.zipWith (fun x y => .tup [x, y]) xs ys
theorem jok_zip {a b : Addr} {ds es : List Dat} {xs ys : List V} (r : LstD K AV H a xs) (q : RpAll K AV H ds xs) (r' : LstD K AV H b ys) (q' : RpAll K AV H es ys) : JOk K AV (Itz K a b) H (zipD ds es) := by
  intro i AV2 H2 rl trk
  have r2 := (r.rel rl).sq
  have q2 := RpAll.rel rl ds q
  have r2' := (r'.rel rl).sq
  have q2' := RpAll.rel rl es q'
  have e : (zipD ds es).length = min ds.length es.length := by simp [zipD]
  rw [e]
  refine ⟨fun h => ?_, fun h => ⟨xs, ys, r2, r2', by rw [q2.len, q2'.len]; omega⟩, fun hi x H3 y => ?_⟩
  · obtain ⟨v, h1, _⟩ := RpAll.get q2 (List.getElem?_eq_getElem (Nat.lt_of_lt_of_le h (Nat.min_le_left ..)))
    obtain ⟨v', h1', _⟩ := RpAll.get q2' (List.getElem?_eq_getElem (Nat.lt_of_lt_of_le h (Nat.min_le_right ..)))
    exact ⟨xs, ys, v, v', r2, r2', h1, h1'⟩
  · obtain ⟨T, u, u', rfl, hT, rfl, y, y'⟩ := y
    obtain ⟨d, h1, h2⟩ := RpAll.get' q2 (y xs r2)
    obtain ⟨d', h1', h2'⟩ := RpAll.get' q2' (y' ys r2')
    obtain ⟨s1, s2⟩ := rp_tup_new trk hT (.cons h2 (.cons h2' .nil))
    exact ⟨.tup [d, d'], by simp [zipD, List.getElem?_zipWith, h1, h1'], s1, s2⟩
theorem sg_rp {l : List Nat} {i : Nat} (h : i < l.length) : Rp K AV H (.str [l[i]]) (sg l i) := by
  unfold Rp sg
  simp [tx, List.getD_eq_getElem?_getD, h]
theorem jok_enumS {l : List Nat} : JOk K AV (itES l) H (enumD (sgs l)) := by
  intro i AV2 H2 rl trk
  have e : (enumD (sgs l)).length = l.length := by simp [enumD, sgs]
  rw [e]
  refine ⟨id, id, fun hi x H3 y => ?_⟩
  obtain ⟨T, rfl, hT, rfl⟩ := y
  obtain ⟨s1, s2⟩ := rp_tup_new trk hT (.cons (rp_int (i := (i : Nat))) (.cons (sg_rp (K := K) (AV := AV2) (H := H2) hi) .nil))
  exact ⟨_, by simp [enumD, sgs, hi], s1, s2⟩
theorem jok_zipS {l m : List Nat} : JOk K AV (itZS l m) H (zipD (sgs l) (sgs m)) := by
  intro i AV2 H2 rl trk
  have e : (zipD (sgs l) (sgs m)).length = min l.length m.length := by simp [zipD, sgs]
  rw [e]
  refine ⟨id, id, fun hi x H3 y => ?_⟩
  obtain ⟨T, rfl, hT, rfl⟩ := y
  have h1 : i < l.length := Nat.lt_of_lt_of_le hi (Nat.min_le_left ..)
  have h2 : i < m.length := Nat.lt_of_lt_of_le hi (Nat.min_le_right ..)
  obtain ⟨s1, s2⟩ := rp_tup_new trk hT (.cons (sg_rp (K := K) (AV := AV2) (H := H2) h1) (.cons (sg_rp (K := K) (AV := AV2) (H := H2) h2) .nil))
  exact ⟨_, by simp [zipD, sgs, List.getElem?_zipWith, h1, h2], s1, s2⟩
end

/-! ### rules -/
@[simp] def asT : Dat → (List Dat → Prop) → Prop
  | .tup xs, k => k xs
  | _, _ => False
section
variable {S : Type}
@[simp] def diList (te : TD S) : TDI S := fun ρ s R => te ρ s fun d s1 => asSeq d fun xs => R xs s1
@[simp] def diTup (te : TD S) : TDI S := fun ρ s R => te ρ s fun d s1 => asT d fun xs => R xs s1
@[simp] def diStr (te : TD S) : TDI S := fun ρ s R => te ρ s fun d s1 => asS d fun xs => R (sgs xs) s1
@[simp] def dRng1 : List Dat → (List Dat → Prop) → Prop
  | [.int j], k => -(2 ^ 62) ≤ j ∧ j < 2 ^ 62 ∧ k (rng1 0 j.toNat)
  | _, _ => False
@[simp] def dRng2 : List Dat → (List Dat → Prop) → Prop
  | [.int i, .int j], k => (-(2 ^ 62) ≤ i ∧ i < 2 ^ 62 ∧ -(2 ^ 62) ≤ j ∧ j < 2 ^ 62) ∧ k (rng1 i (j - i).toNat)
  | _, _ => False
@[simp] def dRng3 : List Dat → (List Dat → Prop) → Prop
  | [.int i, .int j, .int c], k => ∃ n, RgC i j c n ∧ k (rng i c n)
  | _, _ => False
@[simp] def dEnum : List Dat → (List Dat → Prop) → Prop
  | [d], k => asSeq d fun xs => k (enumD xs)
  | _, _ => False
@[simp] def dEnumS : List Dat → (List Dat → Prop) → Prop
  | [.str l], k => k (enumD (sgs l))
  | _, _ => False
@[simp] def dZip : List Dat → (List Dat → Prop) → Prop
  | [d, e], k => asSeq d fun xs => asSeq e fun ys => k (zipD xs ys)
  | _, _ => False
@[simp] def dZipS : List Dat → (List Dat → Prop) → Prop
  | [.str l, .str m], k => k (zipD (sgs l) (sgs m))
  | _, _ => False
@[simp] def diAp (f : List Dat → (List Dat → Prop) → Prop) (ta : TDA S) : TDI S := fun ρ s R => ta ρ s fun ds s1 => f ds fun xs => R xs s1
variable {D : DX S} {X : Cx} {tg e e2 e3 : Expr} {te : TE} {ed : TD S} {tA : TA} {dA : TDA S} {p pos tpos : Pos} {elts : List Expr} {kk : Nat}
theorem di_list (h : DE X D e te ed) : DI X D tg e (iList X.K te) (diList ed) := ⟨pi_list h.pe, fun AV σ H ρ s Rd R A hd k => by
  refine h.le AV σ H ρ s _ _ A hd fun v H1 d s1 e1 i1 r1 q1 => ?_
  obtain ⟨a, xs, ds, rfl, r2, r3, q⟩ := asSeq_of q1 r1
  exact ⟨a, rfl, ⟨xs, r2.sq⟩, k _ H1 ds s1 e1 i1 (jok_seq r2 r3) q⟩⟩
theorem di_tup (h : DE X D e te ed) : DI X D tg e (iTup X.K te) (diTup ed) := ⟨pi_tup h.pe, fun AV σ H ρ s Rd R A hd k => by
  refine h.le AV σ H ρ s _ _ A hd fun v H1 d s1 e1 i1 r1 q1 => ?_
  cases d with
  | tup xs =>
    unfold Rp at r1
    obtain ⟨a, ys, rfl, r1, r2⟩ := r1
    exact ⟨a, rfl, ⟨ys, r1.sq⟩, k _ H1 xs s1 e1 i1 (jok_tup r1 r2) q1⟩
  | _ => exact q1.elim⟩
theorem di_str (h : DE X D e te ed) : DI X D tg e (iStr te) (diStr ed) := ⟨pi_str h.pe, fun AV σ H ρ s Rd R A hd k => by
  refine h.le AV σ H ρ s _ _ A hd fun v H1 d s1 e1 i1 r1 q1 => ?_
  obtain ⟨l, rfl, q⟩ := asS_of q1
  unfold Rp at r1
  subst r1
  exact ⟨tx l, rfl, k _ H1 (sgs l) s1 e1 i1 jok_str q⟩⟩
theorem di_rng1 (hm : X.mg "range" = none) (ha : DA X D [e] tA dA) (hg : Gl X "range" := by rfl) (hs : starEach [e] X.env = [(false, eval e X.env)] := by rfl) : DI X D tg (.Call (.Name "range" p) [e] [] pos) (iRng1 tA) (diAp dRng1 dA) := ⟨pi_range1 hg hm ha.pe hs, fun AV σ H ρ s Rd R A hd k => by
  refine ha.le AV σ H ρ s _ _ A hd fun v H1 d s1 e1 i1 r1 q1 => ?_
  match d, q1, r1 with
  | [.int j], q1, r1 =>
    obtain ⟨v, rfl, h1⟩ := r1.one
    unfold Rp at h1
    subst h1
    exact ⟨j, rfl, q1.1, q1.2.1, k _ H1 _ s1 e1 i1 jok_rng1 q1.2.2⟩⟩
theorem di_rng2 (hm : X.mg "range" = none) (ha : DA X D [e, e2] tA dA) (hg : Gl X "range" := by rfl) (hs : starEach [e, e2] X.env = [(false, eval e X.env), (false, eval e2 X.env)] := by rfl) (hs2 : starEach [e2] X.env = [(false, eval e2 X.env)] := by rfl) :
    DI X D tg (.Call (.Name "range" p) [e, e2] [] pos) (iRng2 tA) (diAp dRng2 dA) := ⟨pi_range2 hg hm ha.pe hs hs2, fun AV σ H ρ s Rd R A hd k => by
  refine ha.le AV σ H ρ s _ _ A hd fun v H1 d s1 e1 i1 r1 q1 => ?_
  match d, q1, r1 with
  | [.int i, .int j], q1, r1 =>
    obtain ⟨v, u, rfl, h1, h2⟩ := r1.two
    unfold Rp at h1 h2
    subst h1 h2
    exact ⟨i, j, rfl, q1.1, k _ H1 _ s1 e1 i1 jok_rng1 q1.2⟩⟩
theorem RpAll.three {K : PySem.W.Frag} {AV : Av} {H : Hp} {d e f : Dat} {xs : List V} (h : RpAll K AV H [d, e, f] xs) : ∃ v u w, xs = [v, u, w] ∧ Rp K AV H d v ∧ Rp K AV H e u ∧ Rp K AV H f w := by
  unfold RpAll at h
  obtain ⟨v, vs, rfl, r1, h⟩ := h
  obtain ⟨u, w, rfl, r2, r3⟩ := h.two
  exact ⟨v, u, w, rfl, r1, r2, r3⟩
theorem di_rng3 (hm : X.mg "range" = none) (ha : DA X D [e, e2, e3] tA dA) (hg : Gl X "range" := by rfl) (hs : starEach [e, e2, e3] X.env = (false, eval e X.env) :: starEach [e2, e3] X.env := by rfl) (hpl : (backTo pos (starEach [e2, e3] X.env)).any (·.1) = false := by rfl) :
    DI X D tg (.Call (.Name "range" p) [e, e2, e3] [] pos) (iRng3 tA) (diAp dRng3 dA) := ⟨pi_range3 hg hm ha.pe hs hpl, fun AV σ H ρ s Rd R A hd k => by
  refine ha.le AV σ H ρ s _ _ A hd fun v H1 d s1 e1 i1 r1 q1 => ?_
  match d, q1, r1 with
  | [.int i, .int j, .int c], ⟨n, q0, q1⟩, r1 =>
    obtain ⟨v, u, w, rfl, h1, h2, h3⟩ := r1.three
    unfold Rp at h1 h2 h3
    subst h1 h2 h3
    exact ⟨i, j, c, n, rfl, q0, k _ H1 _ s1 e1 i1 jok_rng q1⟩⟩
theorem di_enum (hm : X.mg "enumerate" = none) (ha : DA X D [e] tA dA) (hg : Gl X "enumerate" := by rfl) (hs : starEach [e] X.env = [(false, eval e X.env)] := by rfl) : DI X D (.Tuple elts kk tpos) (.Call (.Name "enumerate" p) [e] [] pos) (iEnum X.K tA) (diAp dEnum dA) := ⟨pi_enum hg hm ha.pe hs, fun AV σ H ρ s Rd R A hd k => by
  refine ha.le AV σ H ρ s _ _ A hd fun v H1 d s1 e1 i1 r1 q1 => ?_
  match d, q1, r1 with
  | [d], q1, r1 =>
    obtain ⟨v, rfl, h1⟩ := r1.one
    obtain ⟨a, xs, ds, rfl, r2, r3, q⟩ := asSeq_of q1 h1
    exact ⟨a, xs, rfl, r2.sq, k _ H1 _ s1 e1 i1 (jok_enum r2 r3) q⟩⟩
theorem di_enumS (hm : X.mg "enumerate" = none) (ha : DA X D [e] tA dA) (hg : Gl X "enumerate" := by rfl) (hs : starEach [e] X.env = [(false, eval e X.env)] := by rfl) : DI X D (.Tuple elts kk tpos) (.Call (.Name "enumerate" p) [e] [] pos) (iEnumS tA) (diAp dEnumS dA) := ⟨pi_enumS hg hm ha.pe hs, fun AV σ H ρ s Rd R A hd k => by
  refine ha.le AV σ H ρ s _ _ A hd fun v H1 d s1 e1 i1 r1 q1 => ?_
  match d, q1, r1 with
  | [.str l], q1, r1 =>
    obtain ⟨v, rfl, h1⟩ := r1.one
    unfold Rp at h1
    subst h1
    exact ⟨l, rfl, k _ H1 _ s1 e1 i1 jok_enumS q1⟩⟩
theorem di_zip (hm : X.mg "zip" = none) (ha : DA X D [e, e2] tA dA) (hg : Gl X "zip" := by rfl) (hs : starEach [e, e2] X.env = (false, eval e X.env) :: starEach [e2] X.env := by rfl) (hpl : (backTo pos (starEach [e2] X.env)).any (·.1) = false := by rfl) :
    DI X D (.Tuple elts kk tpos) (.Call (.Name "zip" p) [e, e2] [] pos) (iZip X.K tA) (diAp dZip dA) := ⟨pi_zip hg hm ha.pe hs hpl, fun AV σ H ρ s Rd R A hd k => by
  refine ha.le AV σ H ρ s _ _ A hd fun v H1 d s1 e1 i1 r1 q1 => ?_
  match d, q1, r1 with
  | [d, e], q1, r1 =>
    obtain ⟨v, u, rfl, h1, h2⟩ := r1.two
    obtain ⟨a, xs, ds, rfl, r2, r3, q⟩ := asSeq_of q1 h1
    obtain ⟨b, ys, es, rfl, r4, r5, q⟩ := asSeq_of q h2
    exact ⟨a, b, xs, ys, rfl, r2.sq, r4.sq, k _ H1 _ s1 e1 i1 (jok_zip r2 r3 r4 r5) q⟩⟩
theorem di_zipS (hm : X.mg "zip" = none) (ha : DA X D [e, e2] tA dA) (hg : Gl X "zip" := by rfl) (hs : starEach [e, e2] X.env = (false, eval e X.env) :: starEach [e2] X.env := by rfl) (hpl : (backTo pos (starEach [e2] X.env)).any (·.1) = false := by rfl) :
    DI X D (.Tuple elts kk tpos) (.Call (.Name "zip" p) [e, e2] [] pos) (iZipS tA) (diAp dZipS dA) := ⟨pi_zipS hg hm ha.pe hs hpl, fun AV σ H ρ s Rd R A hd k => by
  refine ha.le AV σ H ρ s _ _ A hd fun v H1 d s1 e1 i1 r1 q1 => ?_
  match d, q1, r1 with
  | [.str l, .str m], q1, r1 =>
    obtain ⟨v, u, rfl, h1, h2⟩ := r1.two
    unfold Rp at h1 h2
    subst h1 h2
    exact ⟨l, m, rfl, k _ H1 _ s1 e1 i1 jok_zipS q1⟩⟩
end

/-! ### for, while -/
section
variable {S : Type}
@[simp] def dForGo (gd : TDG) (tb : TDS S) (De : DEnds S) : List Dat → List Sl → S → Prop
  | [], ρ, s => De.nx ρ s
  | d :: r, ρ, s => gd d ρ fun ρ2 => tb { De with nx := dForGo gd tb De r, ct := dForGo gd tb De r, bk := De.nx } ρ2 s
@[simp] def dFor (di : TDI S) (gd : TDG) (tb : TDS S) : TDS S := fun De ρ s => di ρ s fun items s1 => dForGo gd tb De items ρ s1
def dWhile (c : TDB S) (tb : TDS S) : TDS S := fun De ρ s => ∃ W : Nat → List Sl → S → Prop, (∃ m, W m ρ s) ∧ ∀ m ρ' s', W m ρ' s' →
  c ρ' s' fun b s1 => (b = true → tb { De with nx := fun ρ2 s2 => ∃ m', m' < m ∧ W m' ρ2 s2, ct := fun ρ2 s2 => ∃ m', m' < m ∧ W m' ρ2 s2, bk := De.nx } ρ' s1) ∧ (b = false → De.nx ρ' s1)
variable {D : DX S} {X : Cx} {tg iter c : Expr} {sa : List Stmt} {wi : TI} {di : TDI S} {g : TG} {gd : TDG} {is : List Nat} {t : TS} {dt : TDS S} {tt : TT} {qt : TDB S} {pos : Pos}
theorem ls_for {K : PySem.W.Frag} (hi : LI D K wi di) (hg : LG D K g gd is) (hb : LS D K t dt) : LS D K (tFor wi g t) (dFor di gd dt) := fun σ H ρ s De E A h F => by
  refine hi _ σ H ρ s _ _ A.at_ h fun J H1 items s1 e1 i1 j1 q1 => ?_
  have A1 := A.go e1 i1
  have F1 := F.go (e1.rel A.at_)
  refine ⟨fun i m σ' H' => m + i = items.length ∧ ∃ ρ' s', AtS D K σ' H' ρ' s' ∧ Rel (ownAV D.A0 σ ρ) H1 (ownAV D.A0 σ' ρ') H' ∧ dForGo gd dt De (items.drop i) ρ' s', ⟨items.length, rfl, ρ, s1, A1, .refl, q1⟩, ?_⟩
  rintro i m σ' H' ⟨hm, ρ', s', A', R', q⟩
  obtain ⟨j1, j2, j3⟩ := j1 i _ H' R' A'.at_.trk
  by_cases hi : i < items.length
  · refine .inr ⟨j1 hi, _, fun _ _ z => z, fun x H2 y => ?_⟩
    obtain ⟨d, e, sm, rx⟩ := j3 hi x H2 y
    have ed : items.drop i = d :: items.drop (i + 1) := by
      rw [List.drop_eq_getElem_cons hi]
      rw [List.getElem?_eq_getElem hi] at e
      cases e
      rfl
    rw [ed] at q
    have A2 : AtS D K σ' H2 ρ' s' := A'.go (ExtB.of sm) (D.C.keep A'.at_.inv fun a o _ e => sm a o e)
    refine hg _ x d σ' H2 ρ' s' _ _ A2.at_ rx q fun σ2 ρ2 B kp q2 => ?_
    obtain ⟨A3, sub⟩ := A2.kept B kp
    have R3 : Rel (ownAV D.A0 σ ρ) H1 (ownAV D.A0 σ2 ρ2) H2 := R'.trans ((ExtB.rel A'.at_ (ExtB.of sm)).trans ⟨fun _ _ _ h => h, fun a z => .inl (sub a z)⟩)
    have step : ∀ σ4 H4 ρ4 s4, AtS D K σ4 H4 ρ4 s4 → Rel (ownAV D.A0 σ2 ρ2) H2 (ownAV D.A0 σ4 ρ4) H4 → dForGo gd dt De (items.drop (i + 1)) ρ4 s4 → ∃ m', m' < m ∧ m' + (i + 1) = items.length ∧ ∃ ρ' s', AtS D K σ4 H4 ρ' s' ∧ Rel (ownAV D.A0 σ ρ) H1 (ownAV D.A0 σ4 ρ') H4 ∧ dForGo gd dt De (items.drop (i + 1)) ρ' s' :=
      fun σ4 H4 ρ4 s4 A4 R4 q4 => ⟨m - 1, by omega, by omega, ρ4, s4, A4, R3.trans R4, q4⟩
    exact hb σ2 H2 ρ2 s' _ _ A3 q2 ⟨step, F.rt, fun σ4 H4 ρ4 s4 A4 R4 q4 => F1.nx σ4 H4 ρ4 s4 A4 (R3.trans R4) q4, step, F.rn⟩
  · refine .inl ⟨j2 (by omega), ?_⟩
    rw [List.drop_eq_nil_of_le (by omega)] at q
    exact F1.nx σ' H' ρ' s' A' R' q
theorem ds_for (hp : PassesOwn (model X.prog X.w) X.A X.env X.xe) (hc : X.calm = true) (hi : DI X D tg iter wi di) (hg : DG X D tg g gd is) (hb : DSs X D sa t dt) (hs : ∀ x, foldedSetIterable iter X.env x = pure x := by intro _; rfl) :
    DS X D (.For tg iter sa [] pos) (tFor wi g t) (dFor di gd dt) := ⟨ps_for hp hc hi.pi hg.pg hb.ps hs, ls_for hi.li hg.lg hb.ls⟩
theorem ds_while (hp : PassesOwn (model X.prog X.w) X.A X.env X.xe) (hc : DT X D c tt qt) (hb : DSs X D sa t dt) : DS X D (.While c sa [] pos) (tWhile tt t) (dWhile qt dt) := ⟨ps_while hp hc.pe hb.ps, fun σ H ρ s De E A h F => by
  obtain ⟨W, ⟨m0, w0⟩, turn⟩ := h
  refine ⟨fun m σ' H' => ∃ ρ' s', AtS D X.K σ' H' ρ' s' ∧ Rel (ownAV D.A0 σ ρ) H (ownAV D.A0 σ' ρ') H' ∧ W m ρ' s', ⟨m0, ρ, s, A, .refl, w0⟩, ?_⟩
  rintro m σ' H' ⟨ρ', s', A', R', w⟩
  refine hc.le _ σ' H' ρ' s' _ _ A'.at_ (turn m ρ' s' w) fun b H1 s1 e1 i1 q1 => ?_
  have A1 := A'.go e1 i1
  have R1 := R'.trans (e1.rel A'.at_)
  cases b with
  | true =>
    refine iteT ⟨_, fun _ _ z => z, ?_⟩
    have step : ∀ σ4 H4 ρ4 s4, AtS D X.K σ4 H4 ρ4 s4 → Rel (ownAV D.A0 σ' ρ') H1 (ownAV D.A0 σ4 ρ4) H4 → (∃ m', m' < m ∧ W m' ρ4 s4) → ∃ m', m' < m ∧ ∃ ρ' s', AtS D X.K σ4 H4 ρ' s' ∧ Rel (ownAV D.A0 σ ρ) H (ownAV D.A0 σ4 ρ') H4 ∧ W m' ρ' s' :=
      fun σ4 H4 ρ4 s4 A4 R4 ⟨m', l, q4⟩ => ⟨m', l, ρ4, s4, A4, R1.trans R4, q4⟩
    exact hb.ls σ' H1 ρ' s1 _ _ A1 (q1.1 rfl) ⟨step, F.rt, fun σ4 H4 ρ4 s4 A4 R4 q4 => F.nx σ4 H4 ρ4 s4 A4 (R1.trans R4) q4, step, F.rn⟩
  | false => exact iteF (F.nx _ _ _ _ A1 R1 (q1.2 rfl))⟩
end
end Dl

/-! list comprehensions -/
namespace Dl
open PySem PySem.Spec PyProof.Rows L2

@[simp] def wipeD (ρ : List Sl) : List Nat → List Sl
  | [] => ρ
  | v :: vs => (wipeD ρ vs).set v .no
section
variable {S : Type}
@[simp] def dLcGo (gd : TDG) (tt : TDB S) (te : TD S) (ρ : List Sl) : List Dat → List Dat → S → (List Dat → S → Prop) → Prop
  | [], acc, s, Q => Q acc s
  | d :: r, acc, s, Q => gd d ρ fun ρ2 => tt ρ2 s fun b s1 => (b = true → te ρ2 s1 fun y s2 => dLcGo gd tt te ρ r (acc ++ [y]) s2 Q) ∧ (b = false → dLcGo gd tt te ρ r acc s1 Q)
@[simp] def dLc (di : TDI S) (gd : TDG) (tt : TDB S) (te : TD S) (vs : List Nat) : TDA S := fun ρ s Q => di ρ s fun items s1 => items.length ≤ big ∧ dLcGo gd tt te (wipeD ρ vs) items [] s1 Q
@[simp] def dYes : TDB S := fun _ s Q => Q true s
structure DTs (X : Cx) (D : DX S) (ifs : List Expr) (tt : TT) (qt : TDB S) : Prop where
  pt : PTs X ifs tt
  lt : LT D X.K tt qt
theorem lt_yes {D : DX S} {K : PySem.W.Frag} : LT D K tYes dYes := fun AV σ H ρ s Qd Q A h k => k true H s (.refl _ _) A.inv h
theorem dts_nil {X : Cx} {D : DX S} : DTs X D [] tYes dYes := ⟨pts_nil, lt_yes⟩
theorem dts_one {X : Cx} {D : DX S} {c : Expr} {t : TT} {qt : TDB S} (h : DT X D c t qt) : DTs X D [c] t qt := ⟨pts_one h.pe, h.le⟩

variable {D : DX S} {K : PySem.W.Frag} {AV AV' : Av} {σ σ' : Sg} {H H' : Hp} {ρ ρ' : List Sl} {s s' : S}
theorem EnvOk.wipe {vl : List Addr} (E : EnvOk vl K AV H σ ρ) : ∀ vs : List Nat, EnvOk vl K AV H (wipe σ vs) (wipeD ρ vs)
  | [] => E
  | v :: vs => by
    have E' := E.wipe vs
    have ne : ∀ (i : Nat) (x : Sl), x ≠ .no → ((wipeD ρ vs).set v .no)[i]? = some x → v ≠ i ∧ (wipeD ρ vs)[i]? = some x := fun i x hx h => by
      by_cases e : v = i
      · subst e
        by_cases l : v < (wipeD ρ vs).length
        · rw [List.getElem?_set_self l] at h; cases h; exact absurd rfl hx
        · rw [List.getElem?_eq_none (by simpa using l)] at h; cases h
      · rw [List.getElem?_set_ne e] at h; exact ⟨e, h⟩
    refine ⟨by simp [L2.wipe, wipeD, E'.len], fun i d h => ?_, fun i xs h => ?_⟩
    · obtain ⟨n, h⟩ := ne i _ (fun z => by cases z) h
      obtain ⟨u, h1, h2⟩ := E'.dat i d h
      exact ⟨u, by unfold L2.wipe; rw [List.getElem?_set_ne n]; exact h1, h2⟩
    · obtain ⟨n, h⟩ := ne i _ (fun z => by cases z) h
      obtain ⟨a, ys, h1, h2⟩ := E'.own i xs h
      exact ⟨a, ys, by unfold L2.wipe; rw [List.getElem?_set_ne n]; exact h1, h2⟩
theorem At.wipe (A : At D K AV σ H ρ s) (vs : List Nat) : At D K AV (wipe σ vs) H (wipeD ρ vs) s := ⟨A.env.wipe vs, A.inv, A.ext, A.trk, A.vol, A.low⟩
theorem Rel.addB (A : At D K AV σ H ρ s) {p : Addr} (hp : H p = none) (e : ExtB D.C.vs H H') : Rel AV H (fun a => AV a ∨ a = p) H' :=
  ⟨A.keeps e, fun a z => z.elim .inl fun e => .inr (e ▸ hp)⟩
/-- a new object behind some evaluations -/
theorem At.moreB (A : At D K AV σ H ρ s) {p : Addr} {o : HO} (hp : H p = none) (e : ExtB D.C.vs H H') (i : D.C.I (fun a => AV a ∨ a = p) s' H') (hq : H' p = some o) : At D K (fun a => AV a ∨ a = p) σ H' ρ s' := by
  have r := Rel.addB A hp e
  refine ⟨⟨A.env.len, fun i d h => ?_, fun i xs h => ?_⟩, i, A.ext.trans e, fun a z => ?_, fun a z => .inl (A.vol a z), fun a z => .inl (A.low a z)⟩
  · obtain ⟨u, h1, h2⟩ := A.env.dat i d h
    exact ⟨u, h1, Rp.rel r d h2⟩
  · obtain ⟨a, ys, h1, h2, h3, h4, h5⟩ := A.env.own i xs h
    exact ⟨a, ys, h1, .inl h2, h3, e _ _ h3 h4, RpAll.rel r xs h5⟩
  · rcases z with z | z
    · exact trk_go A.trk e (fun a ha => D.C.trk i ha) a z
    · rw [z, hq]; exact fun z => by cases z
theorem wipe_kept {is vs : List Nat} (hs : ∀ i ∈ is, i ∈ vs) (k : Kept is (wipe σ vs) ρ σ' ρ') : wipe σ' vs = wipe σ vs := by
  have len : ∀ (τ : Sg) (vs : List Nat), (wipe τ vs).length = τ.length := wipe_length
  have out : ∀ (τ : Sg) (vs : List Nat) (j : Nat), j ∉ vs → (wipe τ vs)[j]? = τ[j]? := fun τ vs => by
    induction vs with
    | nil => intro j _; rfl
    | cons v vs ih => intro j h; unfold L2.wipe; rw [List.getElem?_set_ne (fun e => h (by simp [e]))]; exact ih j (fun z => h (List.mem_cons_of_mem _ z))
  have inn : ∀ (τ : Sg) (vs : List Nat) (j : Nat), j ∈ vs → j < τ.length → (wipe τ vs)[j]? = some none := fun τ vs => by
    induction vs with
    | nil => intro j h; cases h
    | cons v vs ih =>
      intro j h l
      unfold L2.wipe
      by_cases e : v = j
      · subst e; rw [List.getElem?_set_self (by rw [len]; exact l)]
      · rw [List.getElem?_set_ne e]
        rcases List.mem_cons.mp h with z | z
        · exact absurd z.symm e
        · exact ih j z l
  have l1 : σ'.length = σ.length := by rw [k.l1, len]
  apply List.ext_getElem?
  intro j
  by_cases hj : j ∈ vs
  · by_cases l : j < σ.length
    · rw [inn σ' vs j hj (by omega), inn σ vs j hj l]
    · rw [List.getElem?_eq_none (by rw [len]; omega), List.getElem?_eq_none (by rw [len]; omega)]
  · have h := (k.out j (fun z => hj (hs j z))).1
    rw [out σ' vs j hj, h]
theorem lf_lc {wi : TI} {di : TDI S} {g : TG} {gd : TDG} {is : List Nat} {tt : TT} {qt : TDB S} {te : TE} {ed : TD S} {vs : List Nat} (hi : LI D K wi di) (hg : LG D K g gd is) (ht : LT D K tt qt) (he : LE D K te ed) (hs : ∀ i ∈ is, i ∈ vs) :
    LF D K (tLc wi g tt te vs) (dLc di gd qt ed vs) := fun AV σ H ρ s Qd Q A h k => by
  refine hi _ σ H ρ s _ _ A h fun J H1 items s1 e1 i1 j1 q1 => ?_
  obtain ⟨hlen, q1⟩ := q1
  have A1 := A.go e1 i1
  intro p hp
  have hv : p ∉ D.C.vs := fun z => D.C.trk i1 z hp
  have hp0 : H p = none := by
    cases q : H p with
    | none => rfl
    | some o => rw [e1 p o hv q] at hp; cases hp
  refine ⟨fun i m H' => m + i = items.length ∧ ∃ acc ys s', ExtB D.C.vs H1 H' ∧ D.C.I (fun a => AV a ∨ a = p) s' H' ∧ H' p = some (.lst ys) ∧ RpAll K (fun a => AV a ∨ a = p) H' acc ys ∧ acc.length ≤ i ∧ dLcGo gd qt ed (wipeD ρ vs) (items.drop i) acc s' Qd, ⟨items.length, rfl, [], [], s1, ?_, ?_, upd_same, .nil, Nat.le_refl _, q1⟩, ?_⟩
  · exact ExtB.of (Same.upd_new hp)
  · exact D.C.keep (D.C.ext i1 hp fun a o e => e) fun a o _ e => Same.upd_new hp a o e
  rintro i m H' ⟨hm, acc, ys, s', eb, ci, hd, ra, hl, q⟩
  have A' := A1.moreB hp eb ci hd
  have rl : Rel AV H1 (fun a => AV a ∨ a = p) H' := Rel.addB A1 hp eb
  obtain ⟨j1, j2, j3⟩ := j1 i _ H' rl A'.trk
  by_cases hi : i < items.length
  · refine .inr ⟨j1 hi, _, fun _ z => z, fun x H2 y => ?_⟩
    obtain ⟨d, e, sm, rx⟩ := j3 hi x H2 y
    have ed' : items.drop i = d :: items.drop (i + 1) := by
      rw [List.drop_eq_getElem_cons hi]
      rw [List.getElem?_eq_getElem hi] at e
      cases e
      rfl
    rw [ed'] at q
    have A2 := (A'.same sm).wipe vs
    refine hg _ x d _ H2 _ s' _ _ A2 rx q fun σ2 ρ2 B kp q2 => ?_
    refine ⟨wipe_kept hs kp, ?_⟩
    refine ht _ σ2 H2 ρ2 s' _ _ B q2 fun b H3 s3 e3 i3 q3 => ?_
    have B3 := B.go e3 i3
    have k3 : Keeps (fun a => AV a ∨ a = p) H' H3 := fun a o n h => B.keeps e3 a o n (sm a o h)
    have hd3 : H3 p = some (.lst ys) := e3 p _ hv (sm p _ hd)
    have eb3 : ExtB D.C.vs H1 H3 := eb.trans ((ExtB.of sm).trans e3)
    cases b with
    | true =>
      refine iteT ?_
      refine he _ σ2 H3 ρ2 s3 _ _ B3 (q3.1 rfl) fun y H4 yd s4 e4 i4 r4 q4 => ?_
      have hd4 : H4 p = some (.lst ys) := e4 p _ hv hd3
      have ra4 : RpAll K (fun a => AV a ∨ a = p) H4 acc ys := RpAll.keeps (fun a o n h => B3.keeps e4 a o n (k3 a o n h)) (fun _ z => z) acc ra
      have up : Keeps (fun a => AV a ∨ a = p) H4 (upd H4 p (.lst (ys ++ [y]))) := fun a o n h => by rw [upd_ne (fun z => n (.inr z))]; exact h
      refine ⟨ys, hd4, by rw [ra4.len, big_eq]; omega, m - 1, by omega, by omega, acc ++ [yd], ys ++ [y], s4, ?_, ?_, upd_same, ?_, by simp; omega, q4⟩
      · intro a o n h
        have ne : a ≠ p := fun z => by rw [z, hp] at h; cases h
        rw [upd_ne ne]
        exact e4 a o n (eb3 a o n h)
      · exact D.C.keep i4 fun a o c h => by
          have ne : a ≠ p := fun z => c.elim (fun q => hv (z ▸ q)) fun q => q (.inr z)
          rw [upd_ne ne]; exact h
      · exact (RpAll.keeps up (fun _ z => z) acc ra4).append (.cons (Rp.keeps up (fun _ z => z) yd r4) .nil)
    | false =>
      refine iteF ?_
      exact ⟨m - 1, by omega, by omega, acc, ys, s3, eb3, i3, hd3, RpAll.keeps k3 (fun _ z => z) acc ra, by omega, q3.2 rfl⟩
  · refine .inl ⟨j2 (by omega), ?_⟩
    rw [List.drop_eq_nil_of_le (by omega)] at q
    exact k p H' acc ys s' hp0 (e1.trans eb) ci hd ra q
end
section
variable {S : Type} {D : DX S} {X : Cx} {elt tg iter : Expr} {ifs : List Expr} {scope : Scope} {own : List (Str × Nat)} {pos spos py : Pos} {wi : TI} {di : TDI S} {g : TG} {gd : TDG} {is : List Nat} {tt : TT} {qt : TDB S} {te : TE} {ed : TD S}
theorem df_lc (hc : X.calm = true) (hN : X.N.Nodup) (hi : DI X D tg iter wi di) (ok : BlkOk X.N X.env.scope scope own)
    (hg : ∀ (s : Shared) (H : Hp) (C : Addr) (cl : List (Str × Addr)) (fp : List Addr), DG (X.blk s H scope (compEnvC scope cl C X.env) fp) D tg g gd is)
    (ht : ∀ (s : Shared) (H : Hp) (C : Addr) (cl : List (Str × Addr)) (fp : List Addr), DTs (X.blk s H scope (compEnvC scope cl C X.env) fp) D ifs tt qt)
    (he : ∀ (s : Shared) (H : Hp) (C : Addr) (cl : List (Str × Addr)) (fp : List Addr), DE (X.blk s H scope (compEnvC scope cl C X.env) fp) D elt te ed) (hin : ∀ i ∈ is, i ∈ own.map (·.2)) (hs : ∀ x, foldedSetIterable iter X.env x = pure x := by intro _; rfl) :
    DF X D (.ListComp elt [⟨tg, iter, ifs, 0⟩] scope pos) (tLc wi g tt te (own.map (·.2))) (dLc di gd qt ed (own.map (·.2))) :=
  ⟨pe_lc hc hN hi.pi ok (fun s H C cl fp => (hg s H C cl fp).pg) (fun s H C cl fp => (ht s H C cl fp).pt) (fun s H C cl fp => (he s H C cl fp).pe) hs,
    lf_lc hi.li (hg {} (fun _ => none) 0 [] []).lg (ht {} (fun _ => none) 0 [] []).lt (he {} (fun _ => none) 0 [] []).le hin⟩
theorem ds_setLc {i : Nat} {y : Str} (hc : X.calm = true) (hN : X.N.Nodup) (hi : DI X D tg iter wi di) (ok : BlkOk X.N X.env.scope scope own)
    (hg : ∀ (s : Shared) (H : Hp) (C : Addr) (cl : List (Str × Addr)) (fp : List Addr), DG (X.blk s H scope (compEnvC scope cl C X.env) fp) D tg g gd is)
    (ht : ∀ (s : Shared) (H : Hp) (C : Addr) (cl : List (Str × Addr)) (fp : List Addr), DTs (X.blk s H scope (compEnvC scope cl C X.env) fp) D ifs tt qt)
    (he : ∀ (s : Shared) (H : Hp) (C : Addr) (cl : List (Str × Addr)) (fp : List Addr), DE (X.blk s H scope (compEnvC scope cl C X.env) fp) D elt te ed) (hin : ∀ i ∈ is, i ∈ own.map (·.2)) (hy : X.N[i]? = some y := by rfl) (hyl : X.env.scope.names.lookup y = some .local := by rfl)
    (hsw : swapsWith (.ListComp elt [⟨tg, iter, ifs, 0⟩] scope pos) (some (.Name y py)) spos.line X.env = pure true := by rfl) (hs : ∀ x, foldedSetIterable iter X.env x = pure x := by intro _; rfl) :
    DS X D (.Assign [.Name y py] (.ListComp elt [⟨tg, iter, ifs, 0⟩] scope pos) spos) (tAsg (tLc wi g tt te (own.map (·.2))) (gName i)) (dOwn i (dLc di gd qt ed (own.map (·.2)))) :=
  ⟨ps_setLc hc hN hy hyl hsw hi.pi ok (fun s H C cl fp => (hg s H C cl fp).pg) (fun s H C cl fp => (ht s H C cl fp).pt) (fun s H C cl fp => (he s H C cl fp).pe) hs,
    ls_own (lf_lc hi.li (hg {} (fun _ => none) 0 [] []).lg (ht {} (fun _ => none) 0 [] []).lt (he {} (fun _ => none) 0 [] []).le hin)⟩
end
end Dl

/-! defs and their calls; exceptions; += -/
namespace Dl
open PySem PySem.Spec PyProof.Rows L2

/-! ### promises -/
abbrev PD := List Dat → (Dat → Prop) → (Value → Prop) → Prop
/-- a def that changes nothing that was tracked -/
def spP (K : PySem.W.Frag) (n : Nat) (pd : PD) : Sp := fun vs H Q E => vs.length = n ∧ ∃ (AV : Av) (ds : List Dat) (Qd : Dat → Prop) (Ed : Value → Prop), (∀ a, AV a → H a ≠ none) ∧ RpAll K AV H ds vs ∧ pd ds Qd Ed ∧
  (∀ v H' d, Same H H' → Rp K AV H' d v → Qd d → Q v H') ∧ ∀ c dx H', Same H H' → Ed c → E c dx H'
abbrev PV (S : Type) := Addr → List Dat → S → (Dat → S → Prop) → (Value → S → Prop) → Prop
/-- a def that changes the object at b alone -/
def spV {S : Type} (K : PySem.W.Frag) (n : Nat) (CB : Addr → DC S) (pd : PV S) : Sp := fun vs H Q E => vs.length = n ∧ ∃ (b : Addr) (AV : Av) (ds : List Dat) (s : S) (Qd : Dat → S → Prop) (Ed : Value → S → Prop), (∀ a, AV a → H a ≠ none) ∧ (∀ a ∈ (CB b).vs, AV a) ∧ (CB b).I AV s H ∧ RpAll K AV H ds vs ∧
  pd b ds s Qd Ed ∧ (∀ v H' d s', ExtB (CB b).vs H H' → (CB b).I AV s' H' → Rp K AV H' d v → Qd d s' → Q v H') ∧ ∀ c dx H' s', ExtB (CB b).vs H H' → (CB b).I AV s' H' → Ed c s' → E c dx H'
/-- a def that may be called by its name -/
structure Kn (P : Program) (w : World) (K : PySem.W.Frag) (mg : Str → Option Value) (base : Heap) (x : Str) (sp : Sp) (k : Nat) : Prop where
  ex : ∃ (f : Addr) (fd : FuncData) (ps : List Str), FnOk P w K mg base (L2.CX P w) k f fd ps sp ∧ mg x = some (.ref f) ∧ PySem.W.keepIn K (.ref f) = true ∧ Binds K fd ps []
theorem Kn.mk' {P : Program} {w : World} {K : PySem.W.Frag} {mg : Str → Option Value} {base : Heap} {x : Str} {sp : Sp} {k : Nat} {f : Addr} {fd : FuncData} {ps : List Str} (F : FnOk P w K mg base (L2.CX P w) k f fd ps sp) (h : mg x = some (.ref f)) (kp : PySem.W.keepIn K (.ref f) = true) (b : Binds K fd ps []) : Kn P w K mg base x sp k := ⟨⟨f, fd, ps, F, h, kp, b⟩⟩

section
variable {S : Type}
/-- an exception's wish fits -/
structure EOk (D : DX S) (E : XK) (Ed : Value → S → Prop) : Prop where
  run : ∀ {AV c dx H' s'}, (∀ a, D.A0 a → AV a) → ExtB D.C.vs D.H0 H' → D.C.I AV s' H' → Ed c s' → E c dx H'
theorem eok_D {D : DX S} : EOk D D.E D.Ed := ⟨D.hE⟩
@[simp] def noE : Value → S → Prop := fun _ _ => False
theorem eok_0 {D : DX S} : EOk D E0 noE := ⟨fun _ _ _ h => h.elim⟩
theorem passX0 {X : Cx} : Passes (L2.CX X.prog X.w) X E0 := fun _ _ _ _ _ _ _ ⟨_, _, _, _, _, _, _, _, _, _, _, _, h⟩ => h.elim
theorem passX_of {X : Cx} {E : XK} (tk : Takes X (fun cls d _ H => E cls d H)) : Passes (L2.CX X.prog X.w) X E := passes_call tk fun _ _ _ _ h => h

@[simp] def dCall (n : Nat) (pd : PD) (Ed : Value → S → Prop) (ta : TDA S) : TD S := fun ρ s Q => ta ρ s fun ds s1 => ds.length = n ∧ pd ds (fun d => Q d s1) fun c => Ed c s1
theorem le_call {D : DX S} {K : PySem.W.Frag} {n : Nat} {pd : PD} {E : XK} {Ed : Value → S → Prop} {tA : TA} {dA : TDA S} (eo : EOk D E Ed) (ha : LA D K tA dA) : LE D K (tCall (spP K n pd) [] E tA) (dCall n pd Ed dA) := fun AV σ H ρ s Qd Q A h k => by
  refine ha _ σ H ρ s _ _ A h fun vs H1 ds s1 e1 i1 r1 q1 => ?_
  rw [List.append_nil]
  have A1 := A.go e1 i1
  refine ⟨by rw [r1.len]; exact q1.1, AV, ds, _, _, A1.trk, r1, q1.2, fun v H2 d sm r qd => ?_, fun c dx H2 sm ec => ?_⟩
  · exact k v H2 d s1 (e1.trans (ExtB.of sm)) (A1.same sm).inv r qd
  · exact eo.run A.low (A1.same sm).ext (A1.same sm).inv ec
@[simp] def dCallV (n : Nat) (b : Addr) (pd : PV S) (Ed : Value → S → Prop) (ta : TDA S) : TD S := fun ρ s Q => ta ρ s fun ds s1 => ds.length = n ∧ pd b ds s1 Q Ed
theorem le_callV {D : DX S} {K : PySem.W.Frag} {n : Nat} {CB : Addr → DC S} {b : Addr} {pd : PV S} {E : XK} {Ed : Value → S → Prop} {tA : TA} {dA : TDA S} (hC : D.C = CB b) (eo : EOk D E Ed) (ha : LA D K tA dA) : LE D K (tCall (spV K n CB pd) [] E tA) (dCallV n b pd Ed dA) := fun AV σ H ρ s Qd Q A h k => by
  refine ha _ σ H ρ s _ _ A h fun vs H1 ds s1 e1 i1 r1 q1 => ?_
  rw [List.append_nil]
  have A1 := A.go e1 i1
  refine ⟨by rw [r1.len]; exact q1.1, b, AV, ds, s1, _, _, A1.trk, by rw [← hC]; exact A1.vol, by rw [← hC]; exact i1, r1, q1.2, fun v H2 d s2 sm i2 r qd => ?_, fun c dx H2 s2 sm i2 ec => ?_⟩
  · rw [← hC] at sm i2
    exact k v H2 d s2 (e1.trans sm) i2 r qd
  · rw [← hC] at sm i2
    exact eo.run A.low (A1.ext.trans sm) i2 ec
variable {D : DX S} {X : Cx} {x : Str} {p pos : Pos} {e : Expr} {es : List Expr} {tA : TA} {dA : TDA S} {n k j : Nat} {pd : PD} {E : XK} {Ed : Value → S → Prop} {sp : Sp}
theorem pe_kn (F : Kn X.prog X.w X.K X.mg X.base x sp k) (hr : Room j X.A) (hx : Passes (L2.CX X.prog X.w) X E) (ha : PA X (e :: es) tA) (hk : k ≤ j := by decide) (hg : Gl X x := by rfl) (hdb : (x == ("__debug__" : Str)) = false := by decide)
    (he : starEach (e :: es) X.env = (false, eval e X.env) :: starEach es X.env := by rfl) (hpl : (backTo pos (starEach es X.env)).any (·.1) = false := by rfl) : PE X (.Call (.Name x p) (e :: es) [] pos) (tCall sp [] E tA) := by
  obtain ⟨f, fd, ps, F, hm, kp, b⟩ := F.ex
  exact pe_call F (hr.mono hk) hg hm kp b .nil hx ha hdb he hpl
theorem pe_kn0 (F : Kn X.prog X.w X.K X.mg X.base x sp k) (hr : Room j X.A) (hx : Passes (L2.CX X.prog X.w) X E) (hk : k ≤ j := by decide) (hg : Gl X x := by rfl) (hdb : (x == ("__debug__" : Str)) = false := by decide) : PE X (.Call (.Name x p) [] [] pos) (tCall sp [] E tNil) := by
  obtain ⟨f, fd, ps, F, hm, kp, b⟩ := F.ex
  exact pe_call0 F (hr.mono hk) hg hm kp b .nil hx hdb
theorem de_call (F : Kn X.prog X.w X.K X.mg X.base x (spP X.K n pd) k) (hr : Room j X.A) (hx : Passes (L2.CX X.prog X.w) X E) (eo : EOk D E Ed) (ha : DA X D (e :: es) tA dA) (hk : k ≤ j := by decide) (hg : Gl X x := by rfl) (hdb : (x == ("__debug__" : Str)) = false := by decide)
    (he : starEach (e :: es) X.env = (false, eval e X.env) :: starEach es X.env := by rfl) (hpl : (backTo pos (starEach es X.env)).any (·.1) = false := by rfl) :
    DE X D (.Call (.Name x p) (e :: es) [] pos) (tCall (spP X.K n pd) [] E tA) (dCall n pd Ed dA) := ⟨pe_kn F hr hx ha.pe hk hg hdb he hpl, le_call eo ha.le⟩
theorem de_callV {CB : Addr → DC S} {b : Addr} {pd : PV S} (F : Kn X.prog X.w X.K X.mg X.base x (spV X.K n CB pd) k) (hr : Room j X.A) (hx : Passes (L2.CX X.prog X.w) X E) (eo : EOk D E Ed) (hC : D.C = CB b) (ha : DA X D (e :: es) tA dA) (hk : k ≤ j := by decide) (hg : Gl X x := by rfl) (hdb : (x == ("__debug__" : Str)) = false := by decide)
    (he : starEach (e :: es) X.env = (false, eval e X.env) :: starEach es X.env := by rfl) (hpl : (backTo pos (starEach es X.env)).any (·.1) = false := by rfl) :
    DE X D (.Call (.Name x p) (e :: es) [] pos) (tCall (spV X.K n CB pd) [] E tA) (dCallV n b pd Ed dA) := ⟨pe_kn F hr hx ha.pe hk hg hdb he hpl, le_callV hC eo ha.le⟩
end

/-! ### a def by its body -/
@[simp] def startD (N : List Str) (ds : List Dat) : List Sl := ds.map .dat ++ List.replicate (N.length - ds.length) .no
section
variable {P : Program} {w : World} {K : PySem.W.Frag} {mg : Str → Option Value} {base : Heap} {S : Type}
def dx0 (H : Hp) (AV : Av) (E : XK) (Ed : Value → Prop) (hE : ∀ {c dx H'}, ExtB [] H H' → Ed c → E c dx H') : DX Unit := ⟨C0, H, AV, E, fun c _ => Ed c, fun _ a _ b => hE a b⟩
def dxV (C : DC S) (H : Hp) (AV : Av) (E : XK) (Ed : Value → S → Prop) (hE : ∀ {AV' c dx H' s'}, (∀ a, AV a → AV' a) → ExtB C.vs H H' → C.I AV' s' H' → Ed c s' → E c dx H') : DX S := ⟨C, H, AV, E, Ed, hE⟩
theorem own_start {N : List Str} {ds : List Dat} {i : Nat} {xs : List Dat} : (startD N ds)[i]? ≠ some (Sl.own xs) := fun h => by
  unfold startD at h
  by_cases l : i < ds.length
  · rw [List.getElem?_append_left (by simpa using l), List.getElem?_map, List.getElem?_eq_getElem l] at h
    cases h
  · rw [List.getElem?_append_right (by simpa using l), List.getElem?_replicate] at h
    split at h <;> cases h
theorem env_start {vl : List Addr} {AV : Av} {H : Hp} {N : List Str} {ds : List Dat} {vs : List V} (r : RpAll K AV H ds vs) : EnvOk vl K AV H (start N vs) (startD N ds) := by
  refine ⟨by simp [L2.start, startD, r.len], fun i d h => ?_, fun i xs h => absurd h own_start⟩
  unfold startD at h
  by_cases l : i < ds.length
  · rw [List.getElem?_append_left (by simpa using l), List.getElem?_map] at h
    obtain ⟨d', e, h⟩ := Option.map_eq_some_iff.mp h
    cases h
    obtain ⟨v, h1, h2⟩ := r.get e
    refine ⟨v, ?_, h2⟩
    unfold L2.start
    rw [List.getElem?_append_left (by simp [r.len, l]), List.getElem?_map, h1]
    rfl
  · rw [List.getElem?_append_right (by simpa using l), List.getElem?_replicate] at h
    split at h <;> cases h
theorem atS_start {D : DX S} {N : List Str} {ds : List Dat} {vs : List V} {s : S} (r : RpAll K D.A0 D.H0 ds vs) (i : D.C.I D.A0 s D.H0) (trk : ∀ a, D.A0 a → D.H0 a ≠ none) (vol : ∀ a ∈ D.C.vs, D.A0 a) : AtS D K (start N vs) D.H0 (startD N ds) s := by
  have e : ∀ a, ownAV D.A0 (start N vs) (startD N ds) a → D.A0 a := fun a z => z.elim id fun ⟨i, xs, h, _⟩ => absurd h own_start
  have A : At D K D.A0 (start N vs) D.H0 (startD N ds) s := ⟨env_start r, i, .refl _ _, trk, vol, fun _ z => z⟩
  exact ⟨A.anti e (fun a z => .inl z) (fun a z => .inl (vol a z)) fun i xs a h _ => absurd h own_start, fun i j xs ys a h => absurd h own_start, fun i xs a h => absurd h own_start⟩
theorem fn_pure {x qual : Str} {st : Stmt} {f : Addr} {fd : FuncData} {N ps : List Str} {k : Nat} {pd : PD} (F : Fun K x qual st f fd) (Sc : FnScope N ps (defScope st))
    (hbody : ∀ (cdv : Value) (A : Around) (outer : List Env) (s : Shared) (H : Hp) (E : XK) (AV : Av) (Ed : Value → Prop) (hE : ∀ {c dx H'}, ExtB [] H H' → Ed c → E c dx H'), Room k (A.deeper (envOfC qual (defScope st) s.heap.objs.size f cdv)) →
      ∃ t td, DSs (cxOf (L2.CX P w) P w K mg base N qual (defScope st) f cdv A outer s H E) (dx0 H AV E Ed hE) (defBody st) t td ∧
        ∀ (ds : List Dat) (Qd : Dat → Prop), ds.length = ps.length → pd ds Qd Ed → td { nx := fun _ _ => Qd .non, rt := fun d _ => Qd d } (startD N ds) ()) :
    FnOk P w K mg base (L2.CX P w) (k + 1) f fd ps (spP K ps.length pd) := by
  refine F.okX Sc (fun vs H Q E h => h.1) (fun cdv A outer s H vs Q E hr h => ?_)
  obtain ⟨hl, AV, ds, Qd, Ed, trk, ra, hp, hq, he⟩ := h
  have hE : ∀ {c dx H'}, ExtB [] H H' → Ed c → E c dx H' := fun {c dx H'} e => he c dx H' fun a o h => e a o (by simp) h
  obtain ⟨t, td, T, h⟩ := hbody cdv A outer s H E AV Ed hE hr
  refine ⟨t, T.ps, T.ls _ _ _ _ _ _ (atS_start (D := dx0 H AV E Ed hE) ra trivial trk (fun _ z => nomatch z)) (h ds Qd (by rw [← ra.len]; exact hl) hp) ⟨fun σ' H' ρ' s' A' _ q => ?_, fun v H' d s' e' _ r q => ?_, fun _ _ _ _ _ _ z => z.elim, fun _ _ _ _ _ _ z => z.elim, fun _ _ _ _ _ _ _ _ _ _ z => z.elim⟩⟩
  · exact hq _ H' _ (fun a o h => A'.at_.ext a o (by intro z; cases z) h) rp_non q
  · exact hq v H' d (fun a o h => e' a o (by intro z; cases z) h) r q
theorem fn_V {x qual : Str} {st : Stmt} {f : Addr} {fd : FuncData} {N ps : List Str} {k : Nat} {CB : Addr → DC S} {pd : PV S} (F : Fun K x qual st f fd) (Sc : FnScope N ps (defScope st))
    (hbody : ∀ (cdv : Value) (A : Around) (outer : List Env) (s : Shared) (H : Hp) (E : XK) (b : Addr) (AV : Av) (Ed : Value → S → Prop) (hE : ∀ {AV' c dx H' s'}, (∀ a, AV a → AV' a) → ExtB (CB b).vs H H' → (CB b).I AV' s' H' → Ed c s' → E c dx H'), Room k (A.deeper (envOfC qual (defScope st) s.heap.objs.size f cdv)) →
      ∃ t td, DSs (cxOf (L2.CX P w) P w K mg base N qual (defScope st) f cdv A outer s H E) (dxV (CB b) H AV E Ed hE) (defBody st) t td ∧
        ∀ (ds : List Dat) (s : S) (Qd : Dat → S → Prop), ds.length = ps.length → pd b ds s Qd Ed → td { nx := fun _ s' => Qd .non s', rt := Qd } (startD N ds) s) :
    FnOk P w K mg base (L2.CX P w) (k + 1) f fd ps (spV K ps.length CB pd) := by
  refine F.okX Sc (fun vs H Q E h => h.1) (fun cdv A outer s H vs Q E hr h => ?_)
  obtain ⟨hl, b, AV, ds, s0, Qd, Ed, trk, vol, iv, ra, hp, hq, he⟩ := h
  have hE : ∀ {AV' c dx H' s'}, (∀ a, AV a → AV' a) → ExtB (CB b).vs H H' → (CB b).I AV' s' H' → Ed c s' → E c dx H' := fun {AV' c dx H' s'} m e i => he c dx H' s' e ((CB b).anti m i)
  obtain ⟨t, td, T, h⟩ := hbody cdv A outer s H E b AV Ed hE hr
  refine ⟨t, T.ps, T.ls _ _ _ _ _ _ (atS_start (D := dxV (CB b) H AV E Ed hE) ra iv trk vol) (h ds s0 Qd (by rw [← ra.len]; exact hl) hp) ⟨fun σ' H' ρ' s' A' _ q => ?_, fun v H' d s' e' i r q => ?_, fun _ _ _ _ _ _ z => z.elim, fun _ _ _ _ _ _ z => z.elim, fun _ _ _ _ _ _ _ _ _ _ z => z.elim⟩⟩
  · exact hq _ H' _ s' A'.at_.ext ((CB b).anti (fun a z => .inl z) A'.at_.inv) rp_non q
  · exact hq v H' d s' e' i r q
end

/-! ### raise -/
section
variable {S : Type} {D : DX S} {X : Cx} {x m : Str} {C : Addr} {jj : Nat} {p p2 pos pos' : Pos}
@[simp] def dRaise (c : Value) : TDS S := fun _ _ s => D.Ed c s
theorem ds_raise {bmB : List Value} {B newId initId : String} (hc : X.calm = true) (tk : Takes X fun cls d _ H => D.E cls d H) (F : ExcBaseFacts B newId initId bmB) (q : PySem.W.excIn X.K C bmB newId = true) (gC : X.mg x = some (.ref C)) (kC : PySem.W.keepIn X.K (.ref C) = true) (r : Raises X (.ref C)) (hg : Gl X x := by rfl)
    (hdb : (x == ("__debug__" : Str)) = false := by decide) : DS X D (.Raise (some (.Call (.Name x p) [.Constant (.str m) jj p2] [] pos)) none pos') (fun _ σ H => D.E (.ref C) none H) (dRaise (D := D) (.ref C)) :=
  ⟨ps_raise hc tk (pmk_own F q gC kC r hg hdb), fun σ H ρ s De E A h F => D.hE A.at_.low A.at_.ext A.at_.inv h⟩
end

/-! ### x op= e -/
section
variable {S : Type} {D : DX S} {X : Cx} {e : Expr} {te : TE} {ed : TD S} {pos pos' : Pos} {op : Operator} {x : Str} {i : Nat}
@[simp] def dAug (i : Nat) (te : TD S) (f : R2d) : TDS S := fun De ρ s => (look ρ i).asDat fun d => te ρ s fun y s1 => f d y fun z => De.nx (ρ.set i (.dat z)) s1
theorem ds_aug {ti : TIp} {f : R2d} (ho : PIp X op ti) (lr : LR X.K ti f) (he : DE X D e te ed) (hN : X.N.Nodup) (hi : X.N[i]? = some x := by rfl) (hx : Loc X.env.scope x := by first | exact .inl rfl | exact .inr rfl) (hf : X.fn x = true ∨ X.env.scope.names.lookup x = some .local := by first | exact .inl rfl | exact .inr rfl) :
    DS X D (.AugAssign (.Name x pos') op e pos) (tAug i te ti) (dAug i ed f) := ⟨ps_aug hN hi hx he.pe ho hf, fun σ H ρ s De E A h F => by
  obtain ⟨d, e0, h⟩ := Sl.asDat_of h
  obtain ⟨v, h1, h2⟩ := A.at_.env.dat i d (look_dat e0)
  refine ⟨v, h1, he.le _ σ H ρ s _ _ A.at_ h fun y H1 dy s1 e1 i1 r1 q1 => ?_⟩
  have A1 := A.go e1 i1
  obtain ⟨d', e0', h2'⟩ : ∃ v', σ[i]? = some (some v') ∧ Rp X.K (ownAV D.A0 σ ρ) H1 d v' := A1.at_.env.dat i d (look_dat e0)
  rw [h1] at e0'
  cases e0'
  refine lr _ H1 _ y d dy _ _ A1.at_.trk h2' r1 q1 fun z H2 dz sm r2 q2 => ?_
  have A2 := A1.go (ExtB.of sm) (D.C.keep A1.at_.inv fun a o _ e => sm a o e)
  exact F.nx _ H2 _ s1 (A2.set r2) (((e1.rel A.at_).trans ((ExtB.of sm).rel A1.at_)).trans ⟨fun _ _ _ h => h, fun a z => .inl (ownAV_set a z)⟩) q2⟩
end
end Dl

/-! sorted(set(a list of texts)) -/
namespace Dl
open PySem PySem.Spec PyProof.Rows L2

abbrev sK := PySem.strKind
def keyX (e : Int × Value) : Str := match e.2 with | .str k _ => k | _ => ⟨#[]⟩
def GoodX (w : World) (e : Int × Value) : Prop := ∃ k t, e.2 = Value.str k t ∧ e.1 = hashStr w k
/-- what a set of texts is: its members, their number, its table as the walk wants it -/
structure TxSet (w : World) (o : Obj) (es : Array (Int × Value)) (ep : Nat) (t : SetTable) (m : Str → Bool) (n : Nat) : Prop where
  ex : o.ExactSet
  dat : o.data = .set es ep t
  good : ∀ e ∈ es.toList, GoodX w e
  nd : (es.toList.map keyX).Nodup
  mem : ∀ k, m k = true ↔ k ∈ es.toList.map keyX
  small : es.size < scanBound
  fits : t.fits es.size = true
  size : es.size = n
  ris : Ris t.place.toList
  led : w.params.followText "set-order" = true ∨ t.led = true
def SetX (w : World) (h : Heap) (a : Addr) (m : Str → Bool) (n : Nat) : Prop := ∃ o es ep t, h.get? a = some o ∧ TxSet w o es ep t m n
section
variable {P : Program} {w : World} {h h' : Heap} {a : Addr} {m : Str → Bool} {n : Nat}
theorem SetX.at (R : SetX w h a m n) (k : ∀ o, h.get? a = some o → h'.get? a = some o) : SetX w h' a m n := let ⟨o, es, ep, t, ho, r⟩ := R; ⟨o, es, ep, t, k o ho, r⟩
theorem SetX.congr {m' : Str → Bool} (R : SetX w h a m n) (e : ∀ k, m' k = m k) : SetX w h a m' n := (funext e : m' = m) ▸ R
theorem isX (k : Str) (u : Tok) : (sK P w).is k (.str k u) = true := by
  show Value.isStrOf k (.str k u) = true
  simp [Value.isStrOf]
theorem goodX_els {l : List (Int × Value)} (g : ∀ e ∈ l, GoodX w e) : ElemsOf (sK P w) l := fun e he => by
  obtain ⟨k, t, h1, h2⟩ := g e he
  exact ⟨⟨k, h1 ▸ isX k t, h2⟩, by rw [h1]; rfl⟩
theorem goodX_is {e : Int × Value} (g : GoodX w e) (k : Str) : (sK P w).is k e.2 = true ↔ keyX e = k := by
  obtain ⟨k0, t, h1, _⟩ := g
  unfold keyX
  rw [h1]
  constructor
  · intro z; exact (sK P w).inj _ _ _ (isX k0 t) z
  · intro z
    have z : k0 = k := z
    subst z; exact isX k0 t
theorem goodX_mem {l : List (Int × Value)} (g : ∀ e ∈ l, GoodX w e) (k : Str) : k ∈ l.map keyX ↔ ∃ e ∈ l, (sK P w).is k e.2 = true := by
  rw [List.mem_map]
  exact ⟨fun ⟨e, he, q⟩ => ⟨e, he, (goodX_is (g e he) k).2 q⟩, fun ⟨e, he, q⟩ => ⟨e, he, (goodX_is (g e he) k).1 q⟩⟩
end
section
variable {P : Program} {w : World} {A : Around} {E : Value → Shared → Prop} {s : Shared} {a : Addr} {m : Str → Bool} {n : Nat}
theorem storeX_at {h : Heap} {o : Obj} {es es' : Array (Int × Value)} {ep : Nat} {t t' : SetTable} (ho : h.get? a = some o) (hd : o.data = .set es ep t) : (h.update a (Obj.putSet es' t')).get? a = some { o with data := .set es' (ep + 1) t' } := PpSet.storeB_at ho hd
theorem setX_tail {g : Bool → Sem Unit} (hg : ∀ (b : Bool) (s₁ : Shared) (Q' : Unit → Shared → Prop), Q' () s₁ → wpAny (model P w) A (g b) Q' E s₁) {o : Obj} {es : Array (Int × Value)} {ep : Nat} {t : SetTable} (ho : s.heap.get? a = some o) (hd : o.data = .set es ep t)
    {es1 : Array (Int × Value)} {t2 : SetTable} {m' : Str → Bool} {n' : Nat} (T : TxSet w { o with data := .set es1 (ep + 1) t2 } es1 (ep + 1) t2 m' n') {wasDummy : Bool} {R : Option Bool → Shared → Prop}
    (hR : ∀ h', Heap.SameBut a s.heap h' → SetX w h' a m' n' → R (some true) { s with heap := h' }) :
    wpAny (model P w) A (do
        storeSet a es1 t2
        if (!wasDummy && t2.tooFull) = true then do
            g (relayAll t2 es1 (SetTable.grown es1.size)).2.2
            storeSet a (relayAll t2 es1 (SetTable.grown es1.size)).1 (relayAll t2 es1 (SetTable.grown es1.size)).2.1
            pure (some true)
          else pure (some true)) R E s := by
  have fb := fits_of_scanBound T.small
  refine wpAny_bind (wpAny_storeSet_of ho hd ?_ fb)
  have ho1 := storeX_at (es' := es1) (t' := t2) ho hd
  have sb1 := Heap.SameBut.update s.heap a (Obj.putSet es1 t2)
  split
  · have pm := relayAll_perm t2 es1 (SetTable.grown es1.size)
    have hf3 := relayAll_fits t2 es1 (SetTable.grown es1.size)
    have hr3 := relayAll_ris t2 es1 (SetTable.grown es1.size)
    have hl3 := relayAll_led t2 es1 (SetTable.grown es1.size)
    generalize relayAll t2 es1 (SetTable.grown es1.size) = Z at pm hf3 hr3 hl3 ⊢
    obtain ⟨es2, t3, gave⟩ := Z
    dsimp only at pm hf3 hr3 hl3 ⊢
    have hsz : es2.size = es1.size := by simpa using pm.length_eq
    have fb2 : es2.size < scanBound := hsz ▸ T.small
    refine wpAny_bind (hg _ _ _ (wpAny_bind (wpAny_storeSet_of ho1 rfl ?_ (fits_of_scanBound fb2))))
    refine wpAny_pure (hR _ (sb1.trans (Heap.SameBut.update _ a _)) ⟨_, es2, _, t3, storeX_at (es' := es2) (t' := t3) ho1 rfl, T.ex, rfl, fun e he => T.good e (pm.mem_iff.mp he), (pm.map keyX).nodup_iff.mpr T.nd,
      fun k => (T.mem k).trans (pm.map keyX).mem_iff.symm, fb2, hf3, hsz.trans T.size, hr3, T.led.imp id fun z => hl3.trans z⟩)
  · exact wpAny_pure (hR _ sb1 ⟨_, es1, _, t2, ho1, T⟩)
theorem setX_add {k : Str} {u : Tok} {Q : Bool → Shared → Prop} (R : SetX w s.heap a m n) (room : n + 1 < scanBound)
    (hQ : ∀ h', Heap.SameBut a s.heap h' → SetX w h' a (fun j => m j || decide (j = k)) (if m k = true then n else n + 1) → Q (!m k) { s with heap := h' }) :
    wpAny (model P w) A (setAddHashed a (.str k u) ((sK P w).hash k)) Q E s := by
  obtain ⟨o, es, ep, t, ho, T⟩ := R
  have hkey : (sK P w).is k (.str k u) = true := isX k u
  have hsc : (Value.str k u).scannable = true := rfl
  have hel : ElemsOf (sK P w) es.toList := goodX_els T.good
  unfold setAddHashed setAddHashedIn
  refine wpAny_holding (wpAny_bind (wpAny_setState_of ho T.dat T.fits ?_))
  dsimp only
  rw [byScan_of hsc T.small hel]
  simp only [↓reduceIte]
  unfold setAddByScan
  refine wpAny_bind (wpAny_bind (wpAny_rule (wpAny_bind (wpAny_setScan_of hkey ho T.dat T.fits hel ?_))))
  cases hfi : List.findIdx? (fun e => (sK P w).is k e.2) es.toList with
  | some j =>
    dsimp only
    obtain ⟨hj, pj, _⟩ := List.findIdx?_eq_some_iff_getElem.mp hfi
    have hmk : m k = true := (T.mem k).2 ((goodX_mem (P := P) T.good k).2 ⟨_, List.getElem_mem hj, pj⟩)
    refine wpAny_pure (wpAny_pure ?_)
    have q := hQ s.heap (Heap.SameBut.refl a s.heap) ⟨o, es, ep, t, ho, T.ex, T.dat, T.good, T.nd, fun i => by
      rw [Bool.or_eq_true, decide_eq_true_eq, ← T.mem i]
      exact ⟨fun z => z.elim id (fun e => e ▸ hmk), .inl⟩, T.small, T.fits, (if_pos hmk).symm ▸ T.size, T.ris, T.led⟩
    rw [hmk] at q
    exact q
  | none =>
    dsimp only
    have hnk : k ∉ es.toList.map keyX := fun z => by
      obtain ⟨e, he, q⟩ := (goodX_mem (P := P) T.good k).1 z
      exact absurd q (List.findIdx?_eq_none_iff.mp hfi e he ▸ Bool.false_ne_true)
    have hmk : m k = false := by
      cases q : m k with
      | false => rfl
      | true => exact absurd ((T.mem k).1 q) hnk
    have way : ∀ (b : Bool) {s₁ : Shared} {Q' : Unit → Shared → Prop}, Q' () s₁ → wpAny (model P w) A (match b with | true => rule "set.scan.the-table-gave-way" | false => pure ()) Q' E s₁ := fun b s₁ Q' q => by cases b <;> first | exact wpAny_pure q | exact wpAny_rule q
    have pm := layNew_perm t es ((sK P w).hash k) (.str k u)
    have hf1 := layNew_fits t es ((sK P w).hash k) (.str k u)
    have hr1 := layNew_ris t es ((sK P w).hash k) (.str k u) T.ris
    have hl1 := layNew_led t es ((sK P w).hash k) (.str k u)
    generalize layNew t es ((sK P w).hash k) (.str k u) = Z at pm hf1 hr1 hl1 ⊢
    obtain ⟨es1, t1, wasDummy, gave⟩ := Z
    dsimp only at pm hf1 hr1 hl1 ⊢
    rw [Array.toList_push] at pm
    have pc : es1.toList.Perm (((sK P w).hash k, Value.str k u) :: es.toList) := pm.trans (List.perm_append_singleton _ _)
    have pk : (es1.toList.map keyX).Perm (k :: es.toList.map keyX) := pc.map keyX
    have hsz : es1.size = n + 1 := by
      have := pc.length_eq
      simpa [T.size] using this
    have mk : ∀ t2 : SetTable, t2.fits es1.size = true → Ris t2.place.toList → t2.led = t1.led → TxSet w { o with data := .set es1 (ep + 1) t2 } es1 (ep + 1) t2 (fun j => m j || decide (j = k)) (n + 1) := fun t2 f r l =>
      ⟨T.ex, rfl, fun e he => by
        rcases List.mem_cons.mp (pc.mem_iff.mp he) with z | z
        · rw [z]; exact ⟨k, u, rfl, rfl⟩
        · exact T.good e z, pk.nodup_iff.mpr (List.nodup_cons.mpr ⟨hnk, T.nd⟩), fun i => by
        rw [Bool.or_eq_true, decide_eq_true_eq, T.mem i, pk.mem_iff, List.mem_cons]
        exact Or.comm, by rw [hsz]; exact room, f, hsz, r, T.led.imp id fun z => by rw [l, hl1]; exact z⟩
    have fin : ∀ h', Heap.SameBut a s.heap h' → SetX w h' a (fun j => m j || decide (j = k)) (n + 1) → Q true { s with heap := h' } := fun h' sb r => by
      have q := hQ h' sb
      rw [hmk] at q
      exact q r
    refine wpAny_bind (way _ ?_)
    split
    · refine wpAny_bind ?_
      rw [hashByValue_scannable 8 hsc]
      refine wpAny_pure ?_
      refine setX_tail (fun b s₁ Q' q => by cases b <;> first | exact wpAny_pure q | exact wpAny_rule q) ho T.dat (mk _ ?_ ?_ ?_) fun h' sb r => wpAny_pure (fin h' sb r)
      · first | (split <;> first | exact hf1 | exact SetTable.fits_plain_off hf1) | exact hf1
      · first | (split <;> exact hr1) | exact hr1
      · first | (split <;> rfl) | rfl
    · refine wpAny_bind (wpAny_pure ?_)
      simp only [↓reduceIte]
      exact setX_tail (fun b s₁ Q' q => by cases b <;> first | exact wpAny_pure q | exact wpAny_rule q) ho T.dat (mk _ hf1 hr1 rfl) fun h' sb r => wpAny_pure (fin h' sb r)
end
end Dl

namespace Dl
open PySem PySem.Spec PyProof.Rows L2
section
variable {P : Program} {w : World} {A : Around} {E : Value → Shared → Prop} {s : Shared}
theorem setX_new {h : Heap} {a : Addr} {m : Str → Bool} (hm : ∀ k, m k = false) (ho : h.get? a = some { cls := .type "set", dict := none, data := .set #[] 0 (.fresh 0 0 (!w.params.followText "set-order")) }) : SetX w h a m 0 :=
  ⟨_, #[], 0, _, ho, ⟨rfl, rfl, rfl⟩, rfl, (fun e he => by simp at he), (by simp), (fun k => by simp [hm k]), (by decide), (by rfl), rfl, List.Pairwise.nil, by
    show _ ∨ (!w.params.followText "set-order") = true
    cases w.params.followText "set-order" <;> first | exact .inl rfl | exact .inr rfl⟩
theorem setX_update {I : Addr} {fp wr : List Addr} {G : Array GenState → Array GenState → Prop} {n : Nat} {Pv : Nat → Value → Prop} {St : Nat → Shared → Prop} {R : Result → Shared → Prop}
    (W : WalksS P w A.in1 I fp wr G n Pv St) (S : Addr) (hSf : S ∉ fp) (ts : List Str) (hn : n = ts.length) (hb : ts.length + 1 < scanBound) (hval : ∀ i v, Pv i v → ∃ k t, ts[i]? = some k ∧ v = .str k t) :
    ∀ (k i : Nat) (s : Shared), n - i = k → i ≤ n → St i s → (∃ c, c ≤ i ∧ SetX w s.heap S (fun j => decide (j ∈ ts.take i)) c) →
      (∀ s' c, Moved (S :: wr) G s s' → c ≤ n → SetX w s'.heap S (fun j => decide (j ∈ ts)) c → R (.ok (.ret .none)) s') →
      codeAny (model P w) A (.builtin "set.update.loop" ⟨[.ref S, .ref I], []⟩) R s := by
  have hSw : S ∉ wr := fun h => hSf (W.sub _ h)
  have hsub : ∀ b ∈ wr, b ∈ S :: wr := fun b hb => List.mem_cons_of_mem _ hb
  intro k
  induction k with
  | zero =>
    rintro i s hk' hi hst ⟨c, hc, hS⟩ hR
    obtain rfl : i = n := by omega
    refine codeAny_builtin F.entry_set_update_loop ?_
    rw [Around.under_plainId F.plain_set_update_loop _]
    show wpAny _ A.in1 (pyNext (.ref I) >>= _) _ _ s
    refine wpAny_bind (W.done s _ _ hst fun s' hm => ?_)
    rw [List.take_of_length_le (show ts.length ≤ i by omega)] at hS
    exact wpAny_pure (hR s' c (hm.mono hsub) hc (hS.at fun o e => hm.heap S o hSw e))
  | succ k ih =>
    rintro i s hk' hi hst ⟨c, hc, hS⟩ hR
    have hlt : i < n := by omega
    refine codeAny_builtin F.entry_set_update_loop ?_
    rw [Around.under_plainId F.plain_set_update_loop _]
    show wpAny _ A.in1 (pyNext (.ref I) >>= _) _ _ s
    refine wpAny_bind (W.item i s _ _ hlt hst fun v s' hP hst' hm => ?_)
    obtain ⟨z, t, hz, rfl⟩ := hval i v hP
    have hS' : SetX w s'.heap S (fun j => decide (j ∈ ts.take i)) c := hS.at fun o e => hm.heap S o hSw e
    show wpAny _ A.in1 (holding [Value.str z t] (setAdd S (.str z t)) >>= _) _ _ s'
    refine wpAny_bind (wpAny_holding ?_)
    unfold setAdd
    refine wpAny_holding (wpAny_bind ((sK P w).pyHash (isX z t) (setX_add (s := { s' with toks := s'.toks + 1 }) hS' (by omega) fun h' hsb hS2 => ?_)))
    have hS3 : SetX w h' S (fun j => decide (j ∈ ts.take (i + 1))) (if decide (z ∈ ts.take i) = true then c else c + 1) := hS2.congr fun j => by
      rw [List.take_add_one, hz]
      simp [List.mem_append]
    have hc3 : (if decide (z ∈ ts.take i) = true then c else c + 1) ≤ i + 1 := by split <;> omega
    refine wpAny_pure ⟨plainId_quiet F.plain_set_update_loop _, ih (i + 1) _ (by omega) hlt (W.frame _ s' _ _ hst' (Nat.le_succ _) fun b hb o e => (hsb.2 b fun h : b = S => hSf (h ▸ hb)).trans e) ⟨_, hc3, hS3⟩ fun s'' c2 hm'' hc'' hS'' => ?_⟩
    exact hR s'' c2 (Moved.trans W.gtrans ((hm.mono hsub).then_heap (Nat.le_succ _) fun b o hb e => (hsb.2 b fun h : b = S => hb (h ▸ List.mem_cons_self)).trans e) hm'') hc'' hS''

theorem strs_at_i : ∀ {us : List Value} {ts : List Str} {i : Nat} {v : Value}, StrsAre us ts → us[i]? = some v → ∃ k t, ts[i]? = some k ∧ v = Value.str k t
  | _, _, i, v, .nil, h => by simp at h
  | _, _, 0, v, .cons k t r, h => by
    simp at h; subst h
    exact ⟨k, t, rfl, rfl⟩
  | _, _, i + 1, v, .cons k t r, h => by
    simp at h
    obtain ⟨k', t', h1, h2⟩ := strs_at_i r h
    exact ⟨k', t', by simpa using h1, h2⟩
abbrev emptySet (w : World) : Obj := { cls := .type "set", dict := none, data := .set #[] 0 (.fresh 0 0 (!w.params.followText "set-order")) }
/-- set(a list of texts) -/
theorem call_setX {l : Addr} {us : List Value} (ts : List Str) {Q : Value → Shared → Prop} (hh : A.handled = none) (hl : s.heap.IsList l us.toArray) (hit : StrsAre us ts) (hlen : us.length = ts.length) (hb : ts.length + 1 < scanBound)
    (h : ∀ (h' : Heap) (tk c : Nat), SetX w h' s.heap.objs.size (fun j => decide (j ∈ ts)) c → c ≤ ts.length → (∀ b o, s.heap.get? b = some o → h'.get? b = some o) → Q (.ref s.heap.objs.size) { s with heap := h', toks := tk }) :
    wpAny (model P w) A (call (.type "set") [.ref l]) Q E s := by
  obtain ⟨c, tl, hmro⟩ := F.called_set.mro
  have hmade := F.called_set.made
  have hsub := F.called_set.sub
  refine wpAny_call (codeAny_of_tree ?_)
  show wpAny _ _ (callAny (.type "set") _) _ _ _
  refine wpAny_pure ⟨Code.quiet_builtin _ (by decide +kernel), codeAny_builtin F.entry_type_call ?_⟩
  rw [Around.under_plain (weight_type_call_type "set" [.ref l] []) rfl]
  have h1 := F.called_set.notType
  have h2 := F.called_set.canCreate
  have hct := F.typeCall_set_1 (.ref l)
  repeat (any_goals (first | assumption | wp_step))
  have hz1 : (s.heap.push (emptySet w)).objs.size = s.heap.objs.size + 1 := Heap.size_push ..
  refine codeAny_mono (code_set_led1 (.ref l) (E := E) (Q₁ := fun obj s₁ => obj = .ref s.heap.objs.size ∧ s₁ = { s with heap := s.heap.push (emptySet w) }) ⟨rfl, rfl⟩) fun r s₁ hr => ?_
  match r, hr with
  | .ok (.ret obj), hr =>
    obtain ⟨rfl, rfl⟩ := hr
    have hS : (s.heap.push (emptySet w)).get? s.heap.objs.size = some (emptySet w) := Heap.get?_push_size _ rfl
    have hT : Shared.TypeIs { s with heap := s.heap.push (emptySet w) } (.ref s.heap.objs.size) "set" := ⟨_, hS, rfl⟩
    have hli := F.called_set.init.lookup
    have hbi := F.called_set.init.bind (.ref s.heap.objs.size)
    repeat (any_goals (first | assumption | wp_step))
    refine codeAny_mono (codeAny_call_builtin (R := wants (fun r s₂ => r = .none ∧ ∃ h' tk c, s₂ = { s with heap := h', toks := tk } ∧ SetX w h' s.heap.objs.size (fun j => decide (j ∈ ts)) c ∧ c ≤ ts.length ∧
        (∀ b o, s.heap.get? b = some o → h'.get? b = some o)) E) F.called_set.init.plain F.entry_set_init (check_set_init_1 hT ?_)) fun r₂ s₂ hr₂ => ?_
    · obtain ⟨ol, hol, hcl, nl, hdl⟩ := hl
      obtain ⟨ocls, odict, odata, oslots⟩ := ol
      simp only at hcl hdl
      subst hcl; subst hdl
      have hol' : (s.heap.push (emptySet w)).get? l = some { cls := .type "list", dict := odict, data := .seq us.toArray nl, slots := oslots } := Heap.get?_push_of_some _ hol
      have hsls := F.sub_list_set
      have hslf := F.sub_list_frozenset
      have hne : (Value.type "list" == Value.type "dict") = false := by decide
      have hl1 : (s.heap.push (emptySet w)).IsList l us.toArray := ⟨_, hol', rfl, nl, rfl⟩
      unfold Builtin.«set.__init__» noKeywords Builtin.Frozenset.updateFrom
      generalize hPI : pyIter = PI
      wp_walk
      subst hPI
      refine wpAny_pyIter_list hl1 (wpAny_bind (wpAny_runValue ?_))
      have hlS : l < s.heap.objs.size := Heap.lt_size hol
      have hh3 : A.in1.in1.in1.handled = none := by simp [hh]
      have hneI : l ≠ (s.heap.push (emptySet w)).objs.size := by rw [hz1]; exact Nat.ne_of_lt (Nat.lt_succ_of_lt hlS)
      have hSf : s.heap.objs.size ∉ [(s.heap.push (emptySet w)).objs.size, l] := fun z => by
        rw [hz1] at z
        rcases List.mem_cons.mp z with z | z
        · exact Nat.ne_of_lt (Nat.lt_succ_self _) z
        · exact Nat.ne_of_gt hlS (List.mem_singleton.mp z)
      have hval : ∀ (i : Nat) (v : Value), us.toArray[i]? = some v → ∃ k t, ts[i]? = some k ∧ v = .str k t := fun i v hv => strs_at_i hit (by simpa using hv)
      refine setX_update ((Walks.list hh3 _ l hneI us.toArray).toS) s.heap.objs.size hSf ts (by simpa using hlen) hb hval (us.toArray.size - 0) 0 _ (by omega) (Nat.zero_le _)
        ⟨⟨_, Heap.get?_push_size _ rfl, rfl, rfl⟩, (hl1.push _)⟩ ⟨0, Nat.le_refl 0, setX_new (fun k => by simp) (Heap.get?_push_of_some _ hS)⟩ fun s' c' hm hc' hS' => ?_
      obtain ⟨h', g2, d', tk', os'⟩ := s'
      obtain rfl : g2 = s.gens := hm.gens
      obtain rfl : d' = s.drawn := hm.drawn
      obtain rfl : os' = s.os := hm.os
      show wpAny _ _ _ _ _ _
      refine wpAny_pure (wpAny_pure ⟨rfl, h', tk', c', rfl, hS', Nat.le_trans hc' (by simp [hlen]), fun b o e => ?_⟩)
      have hb0 : b < s.heap.objs.size := Heap.lt_size e
      refine hm.heap b o (fun z => ?_) (Heap.get?_push_of_some _ (Heap.get?_push_of_some _ e))
      rcases List.mem_cons.mp z with z | z
      · exact Nat.ne_of_lt hb0 z
      · have z := List.mem_singleton.mp z
        rw [hz1] at z
        exact Nat.ne_of_lt (Nat.lt_succ_of_lt hb0) z
    · match r₂, hr₂ with
      | .ok (.ret r), hr₂ =>
        obtain ⟨rfl, h', tk, c', rfl, hS', hc', hk'⟩ := hr₂
        repeat (any_goals (first | assumption | wp_step))
        exact h _ _ _ hS' hc' hk'
      | .error e, hr₂ => exact hr₂
  | .error e, hr => exact hr
end
end Dl

namespace Dl
open PySem PySem.Spec PyProof.Rows L2

/-! ### sorted without doubles -/
def insU (x : List Nat) : List (List Nat) → List (List Nat)
  | [] => [x]
  | y :: r => if x = y then y :: r else if x < y then x :: y :: r else y :: insU x r
def usort (ls : List (List Nat)) : List (List Nat) := ls.foldr insU []
theorem insU_mem {x z : List Nat} : ∀ {l : List (List Nat)}, z ∈ insU x l ↔ z = x ∨ z ∈ l
  | [] => by simp [insU]
  | y :: r => by
    unfold insU
    split
    · rename_i h; subst h; simp
    · split
      · simp
      · simp [insU_mem (l := r)]
        constructor
        · rintro (h | h | h) <;> simp [h]
        · rintro (h | h | h) <;> simp [h]
theorem ltL_trans {a b c : List Nat} (h : a < b) (g : b < c) : a < c := List.lt_trans h g
theorem ltL_irrefl (a : List Nat) : ¬ a < a := List.lt_irrefl a
theorem ltL_of {a b : List Nat} (h : ¬ a < b) (n : a ≠ b) : b < a := by
  have h1 : b ≤ a := List.not_lt.mp h
  by_cases q : b < a
  · exact q
  · exact absurd (List.le_antisymm (List.not_lt.mp q) h1) n
theorem insU_sorted {x : List Nat} : ∀ {l : List (List Nat)}, l.Pairwise (· < ·) → (insU x l).Pairwise (· < ·)
  | [], _ => by simp [insU]
  | y :: r, h => by
    obtain ⟨h1, h2⟩ := List.pairwise_cons.mp h
    unfold insU
    split
    · exact h
    · rename_i ne
      split
      · rename_i lt
        exact List.pairwise_cons.mpr ⟨fun z hz => (List.mem_cons.mp hz).elim (fun e => e ▸ lt) fun hz => ltL_trans lt (h1 z hz), h⟩
      · rename_i nlt
        exact List.pairwise_cons.mpr ⟨fun z hz => (insU_mem.mp hz).elim (fun e => e ▸ ltL_of nlt ne) (h1 z), insU_sorted h2⟩
theorem usort_sorted (ls : List (List Nat)) : (usort ls).Pairwise (· < ·) := by
  unfold usort
  induction ls with
  | nil => exact .nil
  | cons x r ih => exact insU_sorted ih
theorem usort_mem {z : List Nat} (ls : List (List Nat)) : z ∈ usort ls ↔ z ∈ ls := by
  unfold usort
  induction ls with
  | nil => simp
  | cons x r ih => show z ∈ insU x _ ↔ _; rw [insU_mem, ih, List.mem_cons]
/-- the same members in the same order -/
theorem sorted_uniq : ∀ {a b : List (List Nat)}, a.Pairwise (· < ·) → b.Pairwise (· < ·) → (∀ z, z ∈ a ↔ z ∈ b) → a = b
  | [], [], _, _, _ => rfl
  | [], y :: b, _, _, h => by have := (h y).2 (by simp); simp at this
  | x :: a, [], _, _, h => by have := (h x).1 (by simp); simp at this
  | x :: a, y :: b, ha, hb, h => by
    obtain ⟨a1, a2⟩ := List.pairwise_cons.mp ha
    obtain ⟨b1, b2⟩ := List.pairwise_cons.mp hb
    have e : x = y := by
      rcases List.mem_cons.mp ((h x).1 (by simp)) with z | z
      · exact z
      · rcases List.mem_cons.mp ((h y).2 (by simp)) with z' | z'
        · exact z'.symm
        · exact absurd (ltL_trans (a1 y z') (b1 x z)) (ltL_irrefl x)
    subst e
    have t : ∀ z, z ∈ a ↔ z ∈ b := fun z => by
      constructor
      · intro hz
        rcases List.mem_cons.mp ((h z).1 (List.mem_cons_of_mem _ hz)) with q | q
        · exact absurd (a1 z hz) (q ▸ ltL_irrefl _)
        · exact q
      · intro hz
        rcases List.mem_cons.mp ((h z).2 (List.mem_cons_of_mem _ hz)) with q | q
        · exact absurd (b1 z hz) (q ▸ ltL_irrefl _)
        · exact q
    rw [sorted_uniq a2 b2 t]
theorem risingS_pw : ∀ (r : List Str) (p : Str), risingS p r = true → (p :: r).Pairwise (fun x y => ¬ y.cps.toList < x.cps.toList)
  | [], p, _ => by simp
  | x :: r, p, h => by
    have h' : (!ltCps x.cps.toList p.cps.toList) = true ∧ risingS x r = true := by simpa [risingS] using h
    have h1 : ¬ x.cps.toList < p.cps.toList := by
      have := h'.1
      rw [ltCps_eq] at this
      simpa using this
    have ih := risingS_pw r x h'.2
    obtain ⟨i1, i2⟩ := List.pairwise_cons.mp ih
    refine List.pairwise_cons.mpr ⟨fun y hy => ?_, ih⟩
    rcases List.mem_cons.mp hy with q | q
    · rw [q]; exact h1
    · intro lt
      have a1 := i1 y q
      exact h1 (List.lt_of_le_of_lt (List.not_lt.mp a1) lt)
theorem sortedS_pw {ss : List Str} (h : sortedS ss = true) : ss.Pairwise (fun x y => ¬ y.cps.toList < x.cps.toList) := by
  cases ss with
  | nil => exact .nil
  | cons p r => exact risingS_pw r p h
theorem strs_back (ys : List Str) : ys = (ys.map fun y => y.cps.toList).map tx := by
  rw [List.map_map]
  conv => lhs; rw [← List.map_id ys]
  exact List.map_congr_left fun y _ => (tx_toList y).symm
theorem usort_of {ls : List (List Nat)} {ys : List Str} (nd : ys.Nodup) (so : sortedS ys = true) (hm : ∀ k, k ∈ ys ↔ k ∈ ls.map tx) : ys = (usort ls).map tx := by
  rw [strs_back ys]
  congr 1
  refine sorted_uniq ?_ (usort_sorted ls) fun z => ?_
  · rw [List.pairwise_map]
    have nd' : ys.Pairwise (· ≠ ·) := nd
    exact (List.pairwise_iff_getElem.mpr fun i j hi hj lt => by
      have h1 := List.pairwise_iff_getElem.mp (sortedS_pw so) i j hi hj lt
      have h2 := List.pairwise_iff_getElem.mp nd' i j hi hj lt
      refine ltL_of h1 fun e => h2 ?_
      rw [← tx_toList ys[i], ← tx_toList ys[j], e])
  · rw [usort_mem, List.mem_map]
    constructor
    · rintro ⟨y, hy, rfl⟩
      obtain ⟨l, hl, e⟩ := List.mem_map.mp ((hm y).1 hy)
      rw [← e, tx_cps]; exact hl
    · intro hz
      exact ⟨tx z, (hm _).2 (List.mem_map.mpr ⟨z, hz, rfl⟩), tx_cps z⟩

/-! ### as rules -/
def SetXO (w : World) (a : Addr) (m : Str → Bool) (n : Nat) : HO := .ext fun h => SetX w h a m n
section
variable {X : Cx}
def rSetX (K : PySem.W.Frag) (w : World) : List V → Hp → VK → Prop := fun xs H Q => ∃ (a : Addr) (ts : List Str), xs = [.ref a] ∧ SqL K H a (ts.map V.str) ∧ ts.length + 1 < scanBound ∧ ∀ p c, c ≤ ts.length → H p = none → Q (.ref p) (upd H p (SetXO w p (fun j => decide (j ∈ ts)) c))
theorem cr_setX (hc : X.calm = true) : CallR X (.type "set") (rSetX X.K X.w) := by
  intro pins s σ H xs us Q I r h
  obtain ⟨a, ts, rfl, hS, hb, q⟩ := h
  obtain ⟨u, rfl, rx⟩ := vals1 r
  cases rx
  obtain ⟨its, rv, p, hz⟩ := I.list hS
  have hl := rv.length
  rw [List.length_map] at hl
  refine call_setX ts (I.ok.hd hc) p.isList rv.strs hl.symm hb fun h' tk c R hc hk => ?_
  refine ⟨.ref s.heap.objs.size, _, I.laid (t' := tk) hk (Nat.le_refl _) (show ObjOk X.prog X.w _ _ _ (SetXO X.w s.heap.objs.size (fun j => decide (j ∈ ts)) c) from ⟨R, let ⟨o, _, _, _, ho, _⟩ := R; ⟨o, ho⟩, fun h1 h2 p k => SetX.at p k⟩), rfl, q _ c hc (I.hok.fresh (Nat.le_refl _))⟩
def rSortX (w : World) : List V → Hp → VK → Prop := fun xs H Q => ∃ (a : Addr) (m : Str → Bool) (n : Nat), xs = [.ref a] ∧ H a = some (SetXO w a m n) ∧ ∀ ys p, ys.Nodup → sortedS ys = true → (∀ k, k ∈ ys ↔ m k = true) → H p = none → Q (.ref p) (upd H p (.lst (ys.map V.str)))
theorem strs_of : ∀ (l : List Value), (∀ v ∈ l, ∃ k tk, v = Value.str k tk) → ∃ ts, StrsAre l ts ∧ ts = l.map fun v => keyX (0, v)
  | [], _ => ⟨[], .nil, rfl⟩
  | v :: l, h => by
    obtain ⟨k, tk, rfl⟩ := h v List.mem_cons_self
    obtain ⟨ts, h1, h2⟩ := strs_of l fun u hu => h u (List.mem_cons_of_mem _ hu)
    exact ⟨k :: ts, .cons k tk h1, by rw [h2]; rfl⟩
theorem cr_sortX (hc : X.calm = true) : CallR X (.builtin "sorted") (rSortX X.w) := by
  intro pins s σ H xs us Q I r h
  obtain ⟨a, m, n, rfl, ha, q⟩ := h
  obtain ⟨u, rfl, rx⟩ := vals1 r
  cases rx
  obtain ⟨⟨o, es, ep, t, ho, T⟩, _⟩ := (show ObjOk X.prog X.w H s.heap a (SetXO X.w a m n) from I.hok a _ ha)
  refine Calls.call_function_entry PyProof.Rows.kind_sorted PyProof.Rows.plain_sorted PyProof.Rows.entry_sorted (PyProof.Rows.args_sorted1 _) ?_
  unfold Builtin.«sorted»
  refine wpAny_bind (m := checkCount "sorted" 1 1 _) (wpAny_pure ?_)
  refine wpAny_bind (collect_set (A := X.A.in1) (I.ok.hd hc) ⟨o, ho, T.ex.1, T.dat⟩ T.fits T.small T.ris T.led fun s1 vs k1 hz g1 o1 pm => ?_)
  have hvl : vs.length ≤ sizeLine := by
    rw [pm.length_eq, List.length_map, Array.length_toList, sizeLine_eq]
    have := T.small
    have e : scanBound = 4096 := rfl
    omega
  obtain ⟨ts, hS, ets⟩ := strs_of vs fun v hv => by
    obtain ⟨e, he, q⟩ := List.mem_map.mp (pm.mem_iff.mp hv)
    obtain ⟨k, tk, h1, _⟩ := T.good e he
    exact ⟨k, tk, by rw [← q]; exact h1⟩
  have pt : ts.Perm (es.toList.map keyX) := by
    have q := pm.map fun v => keyX (0, v)
    rw [List.map_map] at q
    rw [ets]
    exact q
  have I1 : Inv X pins σ H s1 := I.call' (ch := []) o1 (Un.kept k1) (I.hok.kept k1) (by rw [g1]; exact I.bare) fun _ z => nomatch z
  refine wpAny_bind (wpAny_newList ?_ hvl)
  have hoL : (s1.heap.push (seqObj "list" vs.toArray 0)).get? s1.heap.objs.size = some (seqObj "list" vs.toArray 0) := Heap.get?_push_size _ rfl
  refine wpAny_bind (wpAny_holding (wpAny_call_entry PyProof.Rows.slot_list_sort ⟨_, hoL, rfl⟩ PyProof.Rows.entry_list_sort
    (list_sort_treeKAny strKind_oneLt hoL hS.keysOf (fun v₁ v₂ rest e => keyKind_strs (by rw [← e]; exact hS)) hvl fun st' hp hs => ⟨_, rfl, ?_⟩) (PyProof.Rows.args_list_sort _)))
  obtain ⟨ys, y1, y2, y3⟩ := sorted_out_str hS hp hs
  obtain ⟨ep', he'⟩ := PyProof.Rows.sortedHeap_at (vs := vs) (out := (arrOf st').map (·.2)) hoL
  have py : ys.Perm (es.toList.map keyX) := y2.trans pt
  have hlen : (ys.map V.str).length ≤ sizeLine := by
    rw [List.length_map, py.length_eq, ← pt.length_eq]
    have : ts.length = vs.length := by rw [ets, List.length_map]
    omega
  refine wpAny_pure ⟨_, rfl, .ref s1.heap.objs.size, upd H s1.heap.objs.size (.lst (ys.map V.str)), I1.laid (t' := s1.toks) (fun b u e => ?_) (Nat.le_refl _)
    (show ObjOk X.prog X.w _ _ _ (.lst (ys.map V.str)) from ⟨hlen, ((arrOf st').map (·.2)).toList, ep', vals_of_strs y1, by rw [Array.toArray_toList]; exact he'⟩), rfl,
    q ys _ (py.nodup_iff.mpr T.nd) y3 (fun k => by rw [py.mem_iff, ← T.mem k]) (I1.hok.fresh (Nat.le_refl _))⟩
  have hb : b < s1.heap.objs.size := Heap.lt_size e
  rw [PyProof.Rows.sortedHeap_old (Nat.ne_of_lt hb) (by rw [size_push']; exact Nat.lt_succ_of_lt hb)]
  exact Heap.get?_push_of_some _ e
end

/-! ### over data -/
@[simp] def strsOf : Dat → (List (List Nat) → Prop) → Prop := fun d k => asSeq d fun xs => ∃ ls, strs? xs = some ls ∧ k ls
section
variable {S : Type} {D : DX S} {X : Cx} {e : Expr} {p p2 pos pos2 : Pos} {tA : TA} {dA : TDA S}
@[simp] def dSortSet (dA : TDA S) : TDA S := fun ρ s Q => dA ρ s fun ds s1 => match ds with
  | [d] => strsOf d fun ls => ls.length + 1 < 4096 ∧ Q ((usort ls).map .str) s1
  | _ => False
theorem lf_sortSet {K : PySem.W.Frag} {w : World} (ha : LA D K tA dA) : LF D K (tCB (rSortX w) (tCons (tCB (rSetX K w) tA) tNil)) (dSortSet dA) := fun AV σ H ρ s Qd Q A h k => by
  refine ha _ σ H ρ s _ _ A h fun vs H1 ds s1 e1 i1 r1 q1 => ?_
  match ds, q1, r1 with
  | [d], q1, r1 =>
    obtain ⟨v, rfl, rv⟩ := r1.one
    obtain ⟨a, xs, es, rfl, hl, ra, ls, hs, hlen, q⟩ := asSeq_of q1 rv
    have ex := strs_rp hs ra
    subst ex
    refine ⟨a, ls.map tx, rfl, hl.sq, by rw [List.length_map]; exact hlen, fun p c hc hp => ?_⟩
    refine ⟨p, _, c, rfl, upd_same, fun ys q' nd so hm hq => ?_⟩
    have hy := usort_of (ls := ls) nd so fun k => (hm k).trans (by simp)
    subst hy
    have n1 : q' ≠ p := fun z => by rw [z, upd_same] at hq; cases hq
    have hq1 : H1 q' = none := by rw [upd_ne n1] at hq; exact hq
    have A1 := A.go e1 i1
    have s2 : Same H1 (upd (upd H1 p (SetXO w p (fun j => decide (j ∈ ls.map tx)) c)) q' (.lst (((usort ls).map tx).map V.str))) := fun b o e => by
      have m2 : b ≠ q' := ne_of_none e hq1
      rw [upd_ne m2]
      exact Same.upd_new hp b o e
    have h0 : H q' = none := by
      cases z : H q' with
      | none => rfl
      | some o =>
        have nv : q' ∉ D.C.vs := fun y => D.C.trk i1 y hq1
        rw [e1 q' o nv z] at hq1; cases hq1
    exact k q' _ _ _ s1 h0 (e1.trans (ExtB.of s2)) (D.C.ext i1 hq1 s2) upd_same (rp_strs (usort ls)) q
theorem df_sortSet (hc : X.calm = true) (m1 : X.mg "sorted" = none) (m2 : X.mg "set" = none) (ha : DA X D [e] tA dA) (g1 : Gl X "sorted" := by rfl) (g2 : Gl X "set" := by rfl)
    (st : starEach [e] X.env = (false, eval e X.env) :: starEach [] X.env := by rfl)
    (st2 : starEach [.Call (.Name "set" p) [e] [] pos] X.env = (false, eval (.Call (.Name "set" p) [e] [] pos) X.env) :: starEach [] X.env := by rfl) :
    DF X D (.Call (.Name "sorted" p2) [.Call (.Name "set" p) [e] [] pos] [] pos2) (tCB (rSortX X.w) (tCons (tCB (rSetX X.K X.w) tA) tNil)) (dSortSet dA) :=
  ⟨pe_callB (cr_sortX hc) g1 m1 (by rfl) (pa_cons (pe_callTy (cr_setX hc) g2 m2 (by rfl) ha.pe (by decide) (by decide) st (by rfl)) pa_nil st2) (by decide) (by decide) st2 (by rfl), lf_sortSet ha.le⟩
end
end Dl

/-! a list that changes through the run; new lists as answers -/
namespace Dl
open PySem PySem.Spec PyProof.Rows L2

/-- the list at b: the state is what it holds -/
def CL (K : PySem.W.Frag) (b : Addr) : DC (List Dat) where
  vs := [b]
  I := fun AV s H => ∃ ys, H b = some (.lst ys) ∧ RpAll K AV H s ys
  trk := fun ⟨ys, h, _⟩ ha => by
    have e := List.mem_singleton.mp ha
    rw [e, h]; exact fun z => by cases z
  anti := fun m ⟨ys, h, r⟩ => ⟨ys, h, RpAll.keeps (fun _ _ _ h => h) m _ r⟩
  keep := fun ⟨ys, h, r⟩ k => ⟨ys, k _ _ (.inl (List.mem_singleton.mpr rfl)) h, RpAll.keeps (fun a o n e => k a o (.inr n) e) (fun _ z => z) _ r⟩
  ext := fun {AV s H H' p} ⟨ys, h, r⟩ hp e => ⟨ys, e _ _ h, RpAll.keeps (fun a o _ q => e a o q) (fun _ z => z) _ (RpAll.more hp _ r)⟩
theorem CL_vs (K : PySem.W.Frag) (b : Addr) : (CL K b).vs = [b] := rfl

section
variable {K : PySem.W.Frag} {b : Addr} {D : DX (List Dat)} {X : Cx} {e e1 e2 : Expr} {ta te tk : TE} {da ed kd : TD (List Dat)} {pos p1 p2 : Pos}
/-- b[k] -/
@[simp] def dBag (b : Addr) (da dk : TD (List Dat)) : TD (List Dat) := fun ρ s Q => da ρ s fun x s1 => x = .ref b ∧ dk ρ s1 fun k s2 => asI k fun k => ∃ j d, ixN s2.length k = some j ∧ s2[j]? = some d ∧ Q d s2
theorem le_bag {K : PySem.W.Frag} {ta tk : TE} {da kd : TD (List Dat)} {D : DX (List Dat)} {b : Addr} (hC : D.C = CL K b) (ha : LE D K ta da) (hk : LE D K tk kd) : LE D K (tOp (rIx K) ta tk) (dBag b da kd) := fun AV σ H ρ s Qd Q A h k => by
  refine ha _ σ H ρ s _ _ A h fun v H1 d s1 e1 i1 r1 q1 => ?_
  obtain ⟨rfl, q1⟩ := q1
  unfold Rp at r1; subst r1
  refine hk _ σ H1 ρ s1 _ _ (A.go e1 i1) q1 fun v H2 d s2 e2 i2 r2 q2 => ?_
  obtain ⟨i, rfl, j, d, hj, hd, q⟩ := asI_of q2
  unfold Rp at r2; subst r2
  have i2' : (CL K b).I AV s2 H2 := hC ▸ i2
  obtain ⟨ys, hb, ra⟩ := i2'
  obtain ⟨v, g1, g2⟩ := ra.get hd
  exact .inl ⟨b, ys, i, v, rfl, rfl, .inl (.inl hb), by unfold atI; rw [ra.len, hj]; exact g1, k v H2 d s2 (e1.trans e2) i2 g2 q⟩
theorem de_bag (hC : D.C = CL X.K b) (ha : DE X D e1 ta da) (hk : DE X D e2 tk kd) (hs : PlainIx e2 := by exact fun _ _ => rfl) : DE X D (.Subscript e1 e2 pos) (tOp (rIx X.K) ta tk) (dBag b da kd) := ⟨pe_ix ix_seq ha.pe hk.pe hs, le_bag hC ha.le hk.le⟩
/-- b[k] = e -/
@[simp] def dBagSet (i : Nat) (b : Addr) (te tk : TD (List Dat)) : TDS (List Dat) := fun De ρ s => te ρ s fun y s1 => (look ρ i).asDat fun x => x = .ref b ∧ tk ρ s1 fun k s2 => asI k fun k => ∃ j, ixN s2.length k = some j ∧ De.nx ρ (s2.set j y)
theorem ds_bagset {i : Nat} {x : Str} (hC : D.C = CL X.K b) (he : DE X D e te ed) (hv : PE X (.Name x p1) (tVar i)) (hk : DE X D e2 tk kd)
    (ha : ∀ v, assign (.Subscript (.Name x p1) e2 p2) X.env v = (do
      let ov ← holding [v] (eval (.Name x p1) X.env)
      let iv ← holding [v, ov] (eval e2 X.env)
      standAt p2
      holding [v, ov, iv] (setItem ov iv v)
      release [v, ov, iv] []) := by intro _; rfl)
    (hs : swapsWithSole [.Subscript (.Name x p1) e2 p2] e pos.line X.env = Pure.pure false := by rfl) (hw : swappedStores [.Subscript (.Name x p1) e2 p2] e X.env = Pure.pure none := by rfl)
    (h1 : (assignEach [.Subscript (.Name x p1) e2 p2] X.env).map (·.2) = [assign (.Subscript (.Name x p1) e2 p2) X.env] := by rfl) :
    DS X D (.Assign [.Subscript (.Name x p1) e2 p2] e pos) (tAsg te (gSub (tVar i) tk rSetL)) (dBagSet i b ed kd) :=
  ⟨ps_asg he.pe (pg_sub hv hk.pe set_list ha) hs hw h1, fun σ H ρ s De E A h F => by
  refine he.le _ σ H ρ s _ _ A.at_ h fun v H1 d s1 e1 i1 r1 q1 => ?_
  have A1 := A.go e1 i1
  obtain ⟨d', ed', rfl, q1⟩ := Sl.asDat_of q1
  obtain ⟨u, g1, g2⟩ := A1.at_.env.dat i _ (look_dat ed')
  unfold Rp at g2; subst g2
  refine ⟨_, g1, ?_⟩
  refine hk.le _ σ H1 ρ s1 _ _ A1.at_ q1 fun w H2 dk s2 e2 i2 r2 q2 => ?_
  have A2 := A1.go e2 i2
  obtain ⟨k, rfl, j, hj, q2⟩ := asI_of q2
  unfold Rp at r2; subst r2
  have i2' : (CL X.K b).I (ownAV D.A0 σ ρ) s2 H2 := hC ▸ i2
  obtain ⟨ys, hb, ra⟩ := i2'
  have vb : b ∈ D.C.vs := by rw [hC]; exact List.mem_singleton.mpr rfl
  have av : ownAV D.A0 σ ρ b := A2.at_.vol b vb
  refine ⟨b, ys, k, j, rfl, rfl, hb, by rw [ra.len]; exact hj, ?_⟩
  have eb : ExtB D.C.vs H2 (upd H2 b (.lst (ys.set j v))) := fun a o n e => by
    have ne : a ≠ b := fun z => n (by rw [z]; exact vb)
    rw [upd_ne ne]; exact e
  have ki : D.C.I (ownAV D.A0 σ ρ) (s2.set j d) (upd H2 b (.lst (ys.set j v))) := by
    rw [hC]
    refine ⟨_, upd_same, ?_⟩
    have kk : Keeps (ownAV D.A0 σ ρ) H2 (upd H2 b (.lst (ys.set j v))) := fun a o n e => by
      have ne : a ≠ b := fun z => n (by rw [z]; exact av)
      rw [upd_ne ne]; exact e
    exact RpAll.keeps kk (fun _ z => z) _ (ra.set j (Rp.rel (e2.rel A1.at_) d r1))
  exact F.nx _ _ _ _ (A2.go eb ki) (((e1.trans e2).rel A.at_).trans (eb.rel A2.at_)) q2⟩
end

/-! ### a def that answers with a new list -/
abbrev PN := List Dat → (List Dat → Prop) → (Value → Prop) → Prop
def spN (K : PySem.W.Frag) (n : Nat) (pd : PN) : Sp := fun vs H Q E => vs.length = n ∧ ∃ (AV : Av) (ds : List Dat) (Qd : List Dat → Prop) (Ed : Value → Prop), (∀ a, AV a → H a ≠ none) ∧ RpAll K AV H ds vs ∧ pd ds Qd Ed ∧
  (∀ p H' xs ys, H p = none → Same H H' → H' p = some (.lst ys) → RpAll K (fun a => AV a ∨ a = p) H' xs ys → Qd xs → Q (.ref p) H') ∧ ∀ c dx H', Same H H' → Ed c → E c dx H'
section
variable {S : Type}
@[simp] def dCallN (n : Nat) (pd : PN) (Ed : Value → S → Prop) (ta : TDA S) : TDA S := fun ρ s Q => ta ρ s fun ds s1 => ds.length = n ∧ pd ds (fun d => Q d s1) fun c => Ed c s1
theorem lf_call {D : DX S} {K : PySem.W.Frag} {n : Nat} {pd : PN} {E : XK} {Ed : Value → S → Prop} {tA : TA} {dA : TDA S} (eo : EOk D E Ed) (ha : LA D K tA dA) : LF D K (tCall (spN K n pd) [] E tA) (dCallN n pd Ed dA) := fun AV σ H ρ s Qd Q A h k => by
  refine ha _ σ H ρ s _ _ A h fun vs H1 ds s1 e1 i1 r1 q1 => ?_
  rw [List.append_nil]
  have A1 := A.go e1 i1
  refine ⟨by rw [r1.len]; exact q1.1, AV, ds, _, _, A1.trk, r1, q1.2, fun p H2 xs ys hp sm hq r qd => ?_, fun c dx H2 sm ec => ?_⟩
  · have h0 : H p = none := by
      cases z : H p with
      | none => rfl
      | some o =>
        have nv : p ∉ D.C.vs := fun y => D.C.trk i1 y hp
        rw [e1 p o nv z] at hp; cases hp
    exact k p H2 xs ys s1 h0 (e1.trans (ExtB.of sm)) (D.C.ext i1 hp sm) hq r qd
  · exact eo.run A.low (A1.same sm).ext (A1.same sm).inv ec
variable {D : DX S} {X : Cx} {x : Str} {p pos : Pos} {e : Expr} {es : List Expr} {tA : TA} {dA : TDA S} {n k j : Nat} {E : XK} {Ed : Value → S → Prop}
theorem df_call {pd : PN} (F : Kn X.prog X.w X.K X.mg X.base x (spN X.K n pd) k) (hr : Room j X.A) (hx : Passes (L2.CX X.prog X.w) X E) (eo : EOk D E Ed) (ha : DA X D (e :: es) tA dA) (hk : k ≤ j := by decide) (hg : Gl X x := by rfl) (hdb : (x == ("__debug__" : Str)) = false := by decide)
    (he : starEach (e :: es) X.env = (false, eval e X.env) :: starEach es X.env := by rfl) (hpl : (backTo pos (starEach es X.env)).any (·.1) = false := by rfl) :
    DF X D (.Call (.Name x p) (e :: es) [] pos) (tCall (spN X.K n pd) [] E tA) (dCallN n pd Ed dA) := ⟨pe_kn F hr hx ha.pe hk hg hdb he hpl, lf_call eo ha.le⟩
variable {P : Program} {w : World} {K : PySem.W.Frag} {mg : Str → Option Value} {base : Heap}
theorem fn_new {x qual : Str} {st : Stmt} {f : Addr} {fd : FuncData} {N ps : List Str} {k : Nat} {pd : PN} (F : Fun K x qual st f fd) (Sc : FnScope N ps (defScope st))
    (hbody : ∀ (cdv : Value) (A : Around) (outer : List Env) (s : Shared) (H : Hp) (E : XK) (AV : Av) (Ed : Value → Prop) (hE : ∀ {c dx H'}, ExtB [] H H' → Ed c → E c dx H'), Room k (A.deeper (envOfC qual (defScope st) s.heap.objs.size f cdv)) →
      ∃ t td, DSs (cxOf (L2.CX P w) P w K mg base N qual (defScope st) f cdv A outer s H E) (dx0 H AV E Ed hE) (defBody st) t td ∧
        ∀ (ds : List Dat) (Qd : List Dat → Prop), ds.length = ps.length → pd ds Qd Ed → td { nx := fun _ _ => False, rt := fun _ _ => False, rn := fun xs _ => Qd xs } (startD N ds) ()) :
    FnOk P w K mg base (L2.CX P w) (k + 1) f fd ps (spN K ps.length pd) := by
  refine F.okX Sc (fun vs H Q E h => h.1) (fun cdv A outer s H vs Q E hr h => ?_)
  obtain ⟨hl, AV, ds, Qd, Ed, trk, ra, hp, hq, he⟩ := h
  have hE : ∀ {c dx H'}, ExtB [] H H' → Ed c → E c dx H' := fun {c dx H'} e => he c dx H' fun a o h => e a o (by simp) h
  obtain ⟨t, td, T, h⟩ := hbody cdv A outer s H E AV Ed hE hr
  refine ⟨t, T.ps, T.ls _ _ _ _ _ _ (atS_start (D := dx0 H AV E Ed hE) ra trivial trk (fun _ z => nomatch z)) (h ds Qd (by rw [← ra.len]; exact hl) hp) ⟨fun _ _ _ _ _ _ z => z.elim, fun _ _ _ _ _ _ _ z => z.elim, fun _ _ _ _ _ _ z => z.elim, fun _ _ _ _ _ _ z => z.elim, fun p H' xs ys s' hp0 e' _ hq0 r q => ?_⟩⟩
  exact hq p H' xs ys hp0 (fun a o h => e' a o (by intro z; cases z) h) hq0 r q
end

/-! ### the law's list comes to be -/
section
variable {K : PySem.W.Frag}
def dxB (K : PySem.W.Frag) (H : Hp) (AV : Av) (b : Addr) (hb : H b = none) : DX (List Dat) := ⟨CL K b, H, fun a => AV a ∨ a = b, E0, noE, fun _ _ _ h => h.elim⟩
@[simp] def dSwitch (i : Nat) (tf : TDA Unit) (u : Addr → TDS (List Dat)) : TDS Unit := fun De ρ s => tf ρ s fun xs _ => ∀ b, u b { nx := fun _ _ => False, rt := fun d _ => (∃ c, d = .bl c) ∧ De.rt d () } (ρ.set i (.dat (.ref b))) xs
theorem ls_switch {H : Hp} {AV : Av} {E : XK} {Ed : Value → Prop} {hE : ∀ {c dx H'}, ExtB [] H H' → Ed c → E c dx H'} {i : Nat} {tf : TE} {dF : TDA Unit} {u : TS} {du : Addr → TDS (List Dat)} (hf : LF (dx0 H AV E Ed hE) K tf dF) (hu : ∀ b hb, LS (dxB K H AV b hb) K u (du b)) :
    LS (dx0 H AV E Ed hE) K (tSeq (tAsg tf (gName i)) u) (dSwitch i dF du) := fun σ H0 ρ s De E' A h F => by
  refine hf _ σ H0 ρ s _ _ A.at_ h fun p H1 xs ys s1 hp e1 i1 hq r1 q1 => ?_
  have hb : H p = none := by
    cases z : H p with
    | none => rfl
    | some o => rw [A.at_.ext p o (by intro y; cases y) z] at hp; cases hp
  have m : ∀ a, ownAV (fun a => AV a ∨ a = p) (σ.set i (some (.ref p))) (ρ.set i (.dat (.ref p))) a → ownAV AV σ ρ a ∨ a = p := fun a z => by
    rcases z with z | z
    · exact z.imp .inl id
    · obtain ⟨j, zs, g1, g2⟩ := z
      obtain ⟨ne, g⟩ := set_get_own g1
      rw [List.getElem?_set_ne (Ne.symm ne)] at g2
      exact .inl (.inr ⟨j, zs, g, g2⟩)
  have sm : Same H0 H1 := fun a o e => e1 a o (by intro z; cases z) e
  have A1 : At (dx0 H AV E Ed hE) K (fun a => ownAV AV σ ρ a ∨ a = p) σ H1 ρ () := A.at_.more hp sm hq
  have A2 := A1.set (i := i) (v := .ref p) (d := .ref p) (by unfold Rp; rfl)
  have kk : Keeps (fun a => ownAV AV σ ρ a ∨ a = p) H1 H1 := fun _ _ _ h => h
  have old : ∀ (j : Nat) (zs : List Dat) (a : Addr), (ρ.set i (Sl.dat (.ref p)))[j]? = some (Sl.own zs) → (σ.set i (some (V.ref p)))[j]? = some (some (V.ref a)) → ρ[j]? = some (Sl.own zs) ∧ σ[j]? = some (some (V.ref a)) := fun j zs a g1 g2 => by
    obtain ⟨ne, g⟩ := set_get_own g1
    rw [List.getElem?_set_ne (Ne.symm ne)] at g2
    exact ⟨g, g2⟩
  have np : ∀ (j : Nat) (zs : List Dat) (a : Addr), ρ[j]? = some (Sl.own zs) → σ[j]? = some (some (V.ref a)) → a ≠ p := fun j zs a g1 g2 e => by
    obtain ⟨a', ws, h1, h2, h3, h4, h5⟩ := A.at_.env.own j zs g1
    rw [g2] at h1; cases h1
    rw [e, hp] at h4; cases h4
  have B : AtS (dxB K H AV p hb) K (σ.set i (some (.ref p))) H1 (ρ.set i (.dat (.ref p))) xs := by
    refine ⟨⟨⟨A2.env.len, fun j d g => ?_, fun j zs g => ?_⟩, ⟨ys, hq, RpAll.keeps kk m xs r1⟩, fun a o n e => A1.ext a o (by intro z; cases z) e, fun a z => A1.trk a (m a z), fun a z => .inl (.inr (List.mem_singleton.mp z)), fun a z => .inl z⟩, fun j l zs ws a g1 g2 g3 g4 => ?_, fun j zs a g1 g2 => ?_⟩
    · obtain ⟨v, h1, h2⟩ := A2.env.dat j d g
      exact ⟨v, h1, Rp.keeps kk m d h2⟩
    · obtain ⟨a, ws, h1, h2, h3, h4, h5⟩ := A2.env.own j zs g
      obtain ⟨o1, o2⟩ := old j zs a g h1
      exact ⟨a, ws, h1, .inr ⟨j, zs, g, h1⟩, fun z => np j zs a o1 o2 (List.mem_singleton.mp z), h4, RpAll.keeps kk m zs h5⟩
    · obtain ⟨o1, o2⟩ := old j zs a g1 g3
      obtain ⟨o3, o4⟩ := old l ws a g2 g4
      exact A.dist j l zs ws a o1 o3 o2 o4
    · obtain ⟨o1, o2⟩ := old j zs a g1 g2
      obtain ⟨f1, f2⟩ := A.fresh j zs a o1 o2
      exact ⟨fun z => z.elim f1 (np j zs a o1 o2), f2⟩
  refine hu p hb _ H1 _ xs _ _ B (q1 p) ⟨fun _ _ _ _ _ _ z => z.elim, fun v H' d s' e' _ r q => ?_, fun _ _ _ _ _ _ z => z.elim, fun _ _ _ _ _ _ z => z.elim, fun _ _ _ _ _ _ _ _ _ _ z => z.elim⟩
  have ee : ExtB [] H H' := fun a o _ e => e' a o (by intro z; rw [List.mem_singleton.mp z, hb] at e; cases e) e
  exact F.rt v H' d () ee trivial (Rp.keeps (fun _ _ _ h => h) (fun a z => .inl z) d r) q.2
variable {X : Cx} {H : Hp} {AV : Av} {E : XK} {Ed : Value → Prop} {hE : ∀ {c dx H'}, ExtB [] H H' → Ed c → E c dx H'} {st : Stmt} {rest : List Stmt} {i : Nat} {tf : TE} {dF : TDA Unit} {u : TS} {du : Addr → TDS (List Dat)}
theorem dss_switch {e : Expr} {x : Str} {pos pos' : Pos} (he : DF X (dx0 H AV E Ed hE) e tf dF) (hN : X.N.Nodup) (h2 : ∀ b hb, DSs X (dxB X.K H AV b hb) rest u (du b)) (b0 : ∃ b, H b = none) (hi : X.N[i]? = some x := by rfl) (hx : Loc X.env.scope x := by first | exact .inl rfl | exact .inr rfl)
    (hs : swapsWith e (some (.Name x pos')) pos.line X.env = Pure.pure false := by rfl) (hf : X.fn x = true ∨ X.env.scope.names.lookup x = some .local := by first | exact .inl rfl | exact .inr rfl) : DSs X (dx0 H AV E Ed hE) (.Assign [.Name x pos'] e pos :: rest) (tSeq (tAsg tf (gName i)) u) (dSwitch i dF du) :=
  ⟨pss_cons (ds_own (i := i) he hN hi hx hs hf).ps (let ⟨b, hb⟩ := b0; (h2 b hb).ps), ls_switch he.le fun b hb => (h2 b hb).ls⟩
theorem dss_switchE {e : Expr} {x : Str} {pos pos' : Pos} (he : DF X (dx0 H AV E Ed hE) e tf dF) (hN : X.N.Nodup) (h2 : ∀ b hb, DSs X (dxB X.K H AV b hb) rest u (du b)) (hi : X.N[i]? = some x := by rfl) (hx : Loc X.env.scope x := by first | exact .inl rfl | exact .inr rfl)
    (hs : swapsWith e (some (.Name x pos')) pos.line X.env = Pure.pure false := by rfl) (hf : X.fn x = true ∨ X.env.scope.names.lookup x = some .local := by first | exact .inl rfl | exact .inr rfl) : ∃ t, DSs X (dx0 H AV E Ed hE) (.Assign [.Name x pos'] e pos :: rest) t (dSwitch i dF du) := by
  rcases Classical.em (∃ b, H b = none) with b0 | no
  · exact ⟨_, dss_switch he hN h2 b0 hi hx hs hf⟩
  · refine ⟨tSeq (tAsg tf (gName i)) tNever, pss_cons (ds_own (i := i) he hN hi hx hs hf).ps pss_never, fun σ H0 ρ s De E' A h F => ?_⟩
    refine he.le _ σ H0 ρ s _ _ A.at_ h fun p H1 xs ys s1 hp e1 i1 hq r1 q1 => ?_
    refine absurd ⟨p, ?_⟩ no
    cases z : H p with
    | none => rfl
    | some o => rw [A.at_.ext p o (by intro y; cases y) z] at hp; cases hp
end
end Dl

/-! x += text, chains, list(x) -/
namespace Dl
open PySem PySem.Spec PyProof.Rows L2

/-! ### += -/
def rIAdd : R2 := fun x y H Q => (rI0 fun i j => .int (i + j)) x y H Q ∨ (∃ i j, x = .str i ∧ y = .str j ∧ i.length + j.length ≤ sizeLine ∧ Q (.str (i ++ j)) H)
theorem ip_addA {X : Cx} : PIp X .Add rIAdd := fun pins s σ H x y v u Q I rx ry h => by
  rcases h with h | h
  · exact iop_add pins s σ H x y v u Q I rx ry h
  · exact iop_add_str pins s σ H x y v u Q I rx ry h
@[simp] def dIAdd : R2d
  | .int i, .int j, k => k (.int (i + j))
  | .str a, .str b, k => a.length + b.length ≤ big ∧ k (.str (a ++ b))
  | _, _, _ => False
theorem lr_iadd {K : PySem.W.Frag} : LR K rIAdd dIAdd := by
  intro AV H x y dx dy Qd Q trk rx ry h k
  unfold dIAdd at h
  split at h
  · unfold Rp at rx ry; subst rx ry
    exact .inl ⟨_, _, rfl, rfl, k _ H _ (.refl H) rp_int h⟩
  · unfold Rp at rx ry; subst rx ry
    exact .inr ⟨_, _, rfl, rfl, by rw [tx_length, tx_length, big_eq]; exact h.1, k _ H _ (.refl H) (by rw [tx_append]; exact rp_str) h.2⟩
  · exact h.elim

/-! ### a <= b <= c -/
section
variable {S : Type} {D : DX S} {X : Cx} {a b c : Expr} {ta tb tc : TE} {da db dc : TD S} {pos : Pos} {op op' : CmpOp} {r r' : R2} {f f' : R2d}
@[simp] def dChain (f f' : R2d) (da db dc : TD S) : TD S := fun ρ s Q => da ρ s fun x s1 => db ρ s1 fun y s2 => f x y fun z => asB z fun k => (k = true → dc ρ s2 fun w s3 => f' y w fun u => Q u s3) ∧ (k = false → Q (.bl false) s2)
theorem le_chain {K : PySem.W.Frag} (lr : LR K r f) (lr' : LR K r' f') (ha : LE D K ta da) (hb : LE D K tb db) (hc : LE D K tc dc) : LE D K (tChain r r' ta tb tc) (dChain f f' da db dc) := fun AV σ H ρ s Qd Q A h k => by
  refine ha _ σ H ρ s _ _ A h fun x H1 dx s1 e1 i1 r1 q1 => ?_
  have A1 := A.go e1 i1
  refine hb _ σ H1 ρ s1 _ _ A1 q1 fun y H2 dy s2 e2 i2 r2 q2 => ?_
  have A2 := A1.go e2 i2
  refine lr AV H2 x y dx dy _ _ A2.trk (Rp.rel (ExtB.rel A1 e2) dx r1) r2 q2 fun z H3 dz sm r3 q3 => ?_
  obtain ⟨kk, rfl, q3⟩ := asB_of q3
  unfold Rp at r3
  have A3 := A2.same sm
  refine ⟨kk, r3, ?_⟩
  cases kk with
  | true =>
    refine iteT (hc _ σ H3 ρ s2 _ _ A3 (q3.1 rfl) fun w H4 dw s4 e4 i4 r4 q4 => ?_)
    have A4 := A3.go e4 i4
    refine lr' AV H4 y w dy dw _ _ A4.trk (Rp.rel (ExtB.rel A3 e4) dy (Rp.same r2 sm)) r4 q4 fun u H5 du sm5 r5 q5 => ?_
    exact k u H5 du s4 ((((e1.trans e2).trans (ExtB.of sm)).trans e4).trans (ExtB.of sm5)) (A4.same sm5).inv r5 q5
  | false => exact iteF (k _ H3 _ s2 ((e1.trans e2).trans (ExtB.of sm)) A3.inv rp_bl (q3.2 rfl))
theorem de_chain (ho : OpR X (compareOp op) r) (ho' : OpR X (compareOp op') r') (lr : LR X.K r f) (lr' : LR X.K r' f') (ha : DE X D a ta da) (hb : DE X D b tb db) (hc : DE X D c tc dc) (hm : lastMarks [op, op'] [b, c] = false := by with_unfolding_all rfl) :
    DE X D (.Compare a [op, op'] [b, c] pos) (tChain r r' ta tb tc) (dChain f f' da db dc) := ⟨pe_chain ho ho' ha.pe hb.pe hc.pe hm, le_chain lr lr' ha.le hb.le hc.le⟩
theorem dt_chain (ho : OpR X (compareOp op) r) (ho' : OpR X (compareOp op') r') (lr : LR X.K r f) (lr' : LR X.K r' f') (ha : DE X D a ta da) (hb : DE X D b tb db) (hc : DE X D c tc dc) (hm : lastMarks [op, op'] [b, c] = false := by with_unfolding_all rfl) :
    DT X D (.Compare a [op, op'] [b, c] pos) (tTest (tChain r r' ta tb tc)) (dB (dChain f f' da db dc)) := ⟨pt_chain ho ho' ha.pe hb.pe hc.pe hm, lt_test (le_chain lr lr' ha.le hb.le hc.le)⟩
end

/-! ### list(x) -/
@[simp] def asItems : Dat → (List Dat → Prop) → Prop
  | .lst xs, k => k xs
  | .sq ns, k => k (ns.map .int)
  | .tup xs, k => k xs
  | _, _ => False
def rListOf (K : PySem.W.Frag) : List V → Hp → VK → Prop := fun xs H Q => ∃ p ys, xs = [.ref p] ∧ (SqL K H p ys ∨ SqT K H p ys) ∧ ∀ l, H l = none → Q (.ref l) (upd H l (.lst ys))
theorem asItems_of {K : PySem.W.Frag} {AV : Av} {H : Hp} {x : Dat} {v : V} {k : List Dat → Prop} (h : asItems x k) (r : Rp K AV H x v) : ∃ a xs ds, v = .ref a ∧ (SqL K H a xs ∨ SqT K H a xs) ∧ RpAll K AV H ds xs ∧ k ds := by
  cases x with
  | lst xs =>
    unfold Rp at r
    obtain ⟨a, ys, rfl, r1, r2⟩ := r
    exact ⟨a, ys, xs, rfl, .inl r1.sq, r2, h⟩
  | tup xs =>
    unfold Rp at r
    obtain ⟨a, ys, rfl, r1, r2⟩ := r
    exact ⟨a, ys, xs, rfl, .inr r1.sq, r2, h⟩
  | sq ns =>
    unfold Rp at r
    obtain ⟨a, rfl, r1⟩ := r
    exact ⟨a, _, _, rfl, .inl (sq_of_or r1), rp_ints ns, h⟩
  | _ => exact h.elim
section
variable {S : Type} {D : DX S} {X : Cx} {e : Expr} {p pos : Pos} {tA : TA} {dA : TDA S}
theorem At.new0 {K : PySem.W.Frag} {AV : Av} {σ : Sg} {H H1 : Hp} {ρ : List Sl} {s s1 : S} (e1 : ExtB D.C.vs H H1) (i1 : D.C.I AV s1 H1) {p : Addr} (hp : H1 p = none) : H p = none := by
  cases z : H p with
  | none => rfl
  | some o =>
    have nv : p ∉ D.C.vs := fun y => D.C.trk i1 y hp
    rw [e1 p o nv z] at hp; cases hp
@[simp] def dListOf (dA : TDA S) : TDA S := fun ρ s Q => dA ρ s fun ds s1 => match ds with
  | [d] => asItems d fun xs => Q xs s1
  | _ => False
theorem lf_listOf {K : PySem.W.Frag} (ha : LA D K tA dA) : LF D K (tCB (rListOf K) tA) (dListOf dA) := fun AV σ H ρ s Qd Q A h k => by
  refine ha _ σ H ρ s _ _ A h fun vs H1 ds s1 e1 i1 r1 q1 => ?_
  match ds, q1, r1 with
  | [d], q1, r1 =>
    obtain ⟨v, rfl, rv⟩ := r1.one
    obtain ⟨a, xs, es, rfl, hl, ra, q⟩ := asItems_of q1 rv
    refine ⟨a, xs, rfl, hl, fun l hl => ?_⟩
    have sm := Same.upd_new (o := .lst xs) hl
    exact k l _ es xs s1 (At.new0 (K := K) (σ := σ) (ρ := ρ) (s := s) e1 i1 hl) (e1.trans (ExtB.of sm)) (D.C.ext i1 hl sm) upd_same (RpAll.same (RpAll.more hl es ra) sm) q
theorem df_listOf (hm : X.mg "list" = none) (ha : DA X D [e] tA dA) (g : Gl X "list" := by rfl) (st : starEach [e] X.env = (false, eval e X.env) :: starEach [] X.env := by rfl) :
    DF X D (.Call (.Name "list" p) [e] [] pos) (tCB (rListOf X.K) tA) (dListOf dA) := ⟨pe_callTy call_list_of g hm (by rfl) ha.pe (by decide) (by decide) st (by rfl), lf_listOf ha.le⟩
end
end Dl

/-! more on lists of a name's own -/
namespace Dl
open PySem PySem.Spec PyProof.Rows L2
section
variable {S : Type} {D : DX S} {X : Cx} {sa : List Stmt} {t : TS} {dt : TDS S}
/-- from here on the list at a name may be shared -/
@[simp] def dDemA (i : Nat) (t : TDS S) : TDS S := fun De ρ s => match look ρ i with
  | .own xs => t De (ρ.set i (.dat (.lst xs))) s
  | _ => t De ρ s
theorem dss_demA {i : Nat} (h : DSs X D sa t dt) : DSs X D sa t (dDemA i dt) := ⟨h.ps, fun σ H ρ s De E A hd F => by
  unfold dDemA at hd
  split at hd
  · rename_i xs ex
    refine (dss_dem (i := i) h).ls σ H ρ s De E A ?_ F
    unfold dDem
    rw [ex]
    exact hd
  · exact h.ls σ H ρ s De E A hd F⟩
/-- x[k] of a list of the name's own -/
@[simp] def dOwnIx (i : Nat) (dk : TD S) : TD S := fun ρ s Q => (look ρ i).asOwn fun xs => dk ρ s fun k s1 => asI k fun k => ∃ d, atI xs k = some d ∧ Q d s1
theorem de_ownix {i : Nat} {x : Str} {e2 : Expr} {p1 pos : Pos} {tk : TE} {dk : TD S} (hv : PE X (.Name x p1) (tVar i)) (hk : DE X D e2 tk dk) (hs : PlainIx e2 := by exact fun _ _ => rfl) : DE X D (.Subscript (.Name x p1) e2 pos) (tOp (rIx X.K) (tVar i) tk) (dOwnIx i dk) :=
  ⟨pe_ix ix_seq hv hk.pe hs, fun AV σ H ρ s Qd Q A h k => by
  obtain ⟨xs, ex, h⟩ := Sl.asOwn_of h
  obtain ⟨a, ys, g1, g2, g3, g4, g5⟩ := A.env.own i xs (look_own ex)
  refine ⟨_, g1, hk.le _ σ H ρ s _ _ A h fun v H1 d s1 e1 i1 r1 q1 => ?_⟩
  obtain ⟨j, rfl, d, hd, q⟩ := asI_of q1
  unfold Rp at r1; subst r1
  have g5' : RpAll X.K AV H1 xs ys := RpAll.rel (ExtB.rel A e1) xs g5
  obtain ⟨v, h1, h2⟩ := atI_rp g5' hd
  exact .inl ⟨a, ys, j, v, rfl, rfl, .inl (.inl (e1 a _ g3 g4)), h1, k v H1 d s1 e1 i1 h2 q⟩⟩

@[simp] def dFE (t : TDA S) : TD S := fun ρ s Q => t ρ s fun xs s1 => Q (.lst xs) s1
@[simp] def dLstF (t : TDA S) : TDA S := fun ρ s Q => t ρ s fun xs s1 => xs.length ≤ big ∧ Q xs s1
@[simp] def dRetF (t : TDA S) : TDS S := fun De ρ s => t ρ s De.rn
end
abbrev rBools (K : PySem.W.Frag) (f : List Bool → Bool) : List V → Hp → VK → Prop := fun vs H Q => ∃ (a : Addr) (bs : List Bool), vs = [V.ref a] ∧ SqL K H a (bs.map V.bl) ∧ Q (.bl (f bs)) H
end Dl

/-! for the proofs over data: lengths, equality, loops -/
namespace Dl
open PySem PySem.Spec PyProof.Rows L2
@[simp] theorem kind_str (l : List Nat) : (Dat.str l).kind = some "str" := rfl
@[simp] theorem kind_int (i : Int) : (Dat.int i).kind = some "int" := rfl
@[simp] theorem kind_lst (i : List Dat) : (Dat.lst i).kind = some "list" := rfl
@[simp] theorem kit1 : kitB "str" "str" = some true := by decide +kernel
@[simp] theorem kit2 : kitB "int" "int" = some true := by decide +kernel
@[simp] theorem kit3 : kitB "int" "bool" = some false := by decide +kernel
@[simp] theorem kit4 : kitB "int" "str" = some false := by decide +kernel
@[simp] theorem kit5 : kitB "str" "int" = some false := by decide +kernel
@[simp] theorem sc_ss (a b : List Nat) : scalD (.str a) (.str b) = some (decide (a = b)) := rfl
@[simp] theorem sc_ii (a b : Int) : scalD (.int a) (.int b) = some (decide (a = b)) := rfl
@[simp] theorem sc_bb (a b : Bool) : scalD (.bl a) (.bl b) = some (decide (a = b)) := rfl
@[simp] theorem sc_ll (a b : List Dat) : scalD (.lst a) (.lst b) = none := rfl
@[simp] theorem sc_tt (a b : List Dat) : scalD (.tup a) (.tup b) = none := rfl
def scl : Dat → Bool
  | .non | .bl _ | .int _ => true
  | .str l => PyData.strOk (tx l)
  | _ => false
/-- signs that are signs -/
def okS (l : List Nat) : Prop := ∀ c ∈ l, c < 128
theorem okS_str {l : List Nat} (h : okS l) : PyData.strOk (tx l) = true := by
  unfold PyData.strOk
  simp [tx]
  intro c hc
  have := h c hc
  omega
theorem scl_py : ∀ {xs : List Dat}, xs.all scl = true → pureAll xs = true ∧ PyData.canLayAll0 (pyAll xs) = true ∧ PyData.depthAll (pyAll xs) ≤ 1
  | [], _ => ⟨rfl, rfl, by unfold pyAll PyData.depthAll; omega⟩
  | x :: xs, h => by
    have h' : scl x = true ∧ xs.all scl = true := by simpa using h
    obtain ⟨a, b, c⟩ := scl_py h'.2
    have h1 : x.pure = true ∧ x.py.canLay0 = true ∧ x.py.depth ≤ 1 := by
      cases x <;> simp_all [scl, Dat.pure, Dat.py, PyData.canLay0, PyData.depth]
    refine ⟨?_, ?_, ?_⟩
    · unfold pureAll; rw [h1.1, a]; rfl
    · unfold pyAll PyData.canLayAll0; rw [h1.2.1, b]; rfl
    · unfold pyAll PyData.depthAll; have := h1.2.2; omega
theorem eqok_lst {xs : List Dat} (h : xs.all scl = true) : EqOk (.lst xs) := by
  obtain ⟨a, b, c⟩ := scl_py h
  refine ⟨a, ?_⟩
  unfold SeqAt.shaped Dat.py
  simp [PyData.canLay0, PyData.depth, b]
  omega
theorem eqok_tup {xs : List Dat} (h : xs.all scl = true) : EqOk (.tup xs) := by
  obtain ⟨a, b, c⟩ := scl_py h
  refine ⟨a, ?_⟩
  unfold SeqAt.shaped Dat.py
  simp [PyData.canLay0, PyData.depth, b]
  omega
@[simp] theorem eqok_nil : EqOk (.lst []) := eqok_lst rfl
theorem eqok_strs {l : List (List Nat)} (h : ∀ x ∈ l, okS x) : EqOk (.lst (l.map .str)) := eqok_lst (by
  simp only [List.all_map, List.all_eq_true]
  exact fun x hx => okS_str (h x hx))
theorem eqok_sgs {l : List Nat} (h : okS l) : EqOk (.lst (l.map fun c => .str [c])) := by
  have := eqok_strs (l := l.map fun c => [c]) (fun x hx => by
    obtain ⟨c, hc, rfl⟩ := List.mem_map.mp hx
    intro d hd
    rw [List.mem_singleton.mp hd]; exact h c hc)
  rwa [List.map_map] at this
@[simp] theorem eqv_nil (xs : List Dat) : (Dat.lst xs).py.eqv (Dat.lst []).py = xs.isEmpty := by
  cases xs <;> simp [Dat.py, pyAll, PyData.eqv, PyData.eqvAll]
theorem eqv_strs : ∀ a b : List (List Nat), PyData.eqvAll (pyAll (a.map .str)) (pyAll (b.map .str)) = decide (a = b)
  | [], [] => rfl
  | [], y :: b => by simp [pyAll, PyData.eqvAll]
  | x :: a, [] => by simp [pyAll, PyData.eqvAll]
  | x :: a, y :: b => by
    have h : (tx x == tx y) = decide (x = y) := by
      by_cases e : x = y
      · subst e; simp
      · rw [beq_eq_false_iff_ne.mpr (fun z => e (tx_inj z)), decide_eq_false e]
    simp only [List.map_cons, pyAll, PyData.eqvAll, Dat.py, PyData.eqv, h, eqv_strs a b]
    by_cases e : x = y <;> simp [e]
@[simp] theorem eqv_lstr (a b : List (List Nat)) : (Dat.lst (a.map .str)).py.eqv (Dat.lst (b.map .str)).py = decide (a = b) := by
  show PyData.eqv (.list _) (.list _) = _
  simp only [PyData.eqv, eqv_strs]

/-! ### comprehensions, loops -/
section
variable {S : Type}
theorem lc_fm {gd : TDG} {tt : TDB S} {te : TD S} {ρ : List Sl} {Q : List Dat → S → Prop} {s : S} (p : Dat → Bool) (f : Dat → Dat) : ∀ {items acc : List Dat},
    (∀ d ∈ items, ∀ (C : Dat → S → Prop) (N : S → Prop), (p d = true → C (f d) s) → (p d = false → N s) → gd d ρ fun ρ2 => tt ρ2 s fun b s1 => (b = true → te ρ2 s1 C) ∧ (b = false → N s1)) → Q (acc ++ (items.filter p).map f) s → dLcGo gd tt te ρ items acc s Q
  | [], acc, _, q => by simpa using q
  | d :: r, acc, h, q => by
    unfold dLcGo
    have go : ∀ a, Q (a ++ (r.filter p).map f) s → dLcGo gd tt te ρ r a s Q := fun a qa => lc_fm p f (fun d hd => h d (List.mem_cons_of_mem _ hd)) qa
    refine h d (by simp) (fun y s2 => dLcGo gd tt te ρ r (acc ++ [y]) s2 Q) (fun s1 => dLcGo gd tt te ρ r acc s1 Q) (fun e => go _ ?_) fun e => go _ ?_
    · simpa [List.filter_cons, e] using q
    · simpa [List.filter_cons, e] using q
theorem lc_inv {gd : TDG} {tt : TDB S} {te : TD S} {ρ : List Sl} {Q : List Dat → S → Prop} {s : S} {items : List Dat} (I : Nat → List Dat → S → Prop) (h0 : I 0 [] s)
    (hs : ∀ i d acc s, items[i]? = some d → I i acc s → ∀ (C : Dat → S → Prop) (N : S → Prop), (∀ y s', I (i + 1) (acc ++ [y]) s' → C y s') → (∀ s', I (i + 1) acc s' → N s') → gd d ρ fun ρ2 => tt ρ2 s fun b s1 => (b = true → te ρ2 s1 C) ∧ (b = false → N s1))
    (he : ∀ acc s, I items.length acc s → Q acc s) : dLcGo gd tt te ρ items [] s Q := by
  have go : ∀ (m i : Nat) (acc : List Dat) (s : S), m + i = items.length → I i acc s → dLcGo gd tt te ρ (items.drop i) acc s Q := by
    intro m
    induction m with
    | zero =>
      intro i acc s e h
      rw [List.drop_eq_nil_of_le (by omega)]
      have : i = items.length := by omega
      subst this
      exact he acc s h
    | succ m ih =>
      intro i acc s e h
      have hi : i < items.length := by omega
      rw [List.drop_eq_getElem_cons hi]
      unfold dLcGo
      exact hs i _ acc s (List.getElem?_eq_getElem hi) h _ _ (fun y s' h' => ih (i + 1) _ s' (by omega) h') fun s' h' => ih (i + 1) _ s' (by omega) h'
  exact go items.length 0 [] s (by omega) h0
theorem for_inv {gd : TDG} {tb : TDS S} {De : DEnds S} {ρ : List Sl} {s : S} {items : List Dat} (I : Nat → List Sl → S → Prop) (h0 : I 0 ρ s)
    (hs : ∀ i d ρ s, items[i]? = some d → I i ρ s → ∀ N : List Sl → S → Prop, (∀ ρ s, I (i + 1) ρ s → N ρ s) → gd d ρ fun ρ2 => tb { De with nx := N, ct := N, bk := De.nx } ρ2 s)
    (he : ∀ ρ s, I items.length ρ s → De.nx ρ s) : dForGo gd tb De items ρ s := by
  have go : ∀ (m i : Nat) (ρ : List Sl) (s : S), m + i = items.length → I i ρ s → dForGo gd tb De (items.drop i) ρ s := by
    intro m
    induction m with
    | zero =>
      intro i acc s e h
      rw [List.drop_eq_nil_of_le (by omega)]
      have : i = items.length := by omega
      subst this
      exact he acc s h
    | succ m ih =>
      intro i acc s e h
      have hi : i < items.length := by omega
      rw [List.drop_eq_getElem_cons hi]
      unfold dForGo
      exact hs i _ acc s (List.getElem?_eq_getElem hi) h _ fun ρ' s' h' => ih (i + 1) ρ' s' (by omega) h'
  exact go items.length 0 ρ s (by omega) h0
end
@[simp] theorem strs_sgs (l : List Nat) : strs? (l.map fun c => Dat.str [c]) = some (l.map fun c => [c]) := by
  have := strs_map (l.map fun c => [c])
  rwa [List.map_map] at this
@[simp] theorem strs_str (l : List (List Nat)) : strs? (l.map Dat.str) = some l := strs_map l
@[simp] theorem atI_k {α : Type} (xs : List α) (k : Nat) : atI xs (k : Int) = xs[k]? := by
  by_cases h : k < xs.length
  · rw [List.getElem?_eq_getElem h]; exact atI_nat (List.getElem?_eq_getElem h)
  · rw [List.getElem?_eq_none (by omega)]
    unfold atI ixN
    rw [if_pos (by omega), if_neg (by omega)]
    rfl
@[simp] theorem atI_0 {α : Type} (xs : List α) : atI xs 0 = xs[0]? := atI_k xs 0
@[simp] theorem flat_s (l : List Nat) : flatD (.str l) = true := rfl
@[simp] theorem flat_i (l : Int) : flatD (.int l) = true := rfl
@[simp] theorem flat_n : flatD .non = true := rfl
@[simp] theorem inF_n (d : Dat) : inF d [] = false := rfl
@[simp] theorem inF_c (d e : Dat) (r : List Dat) : inF d (e :: r) = (eqF e d || inF d r) := rfl
@[simp] theorem eqF_ss (a b : List Nat) : eqF (.str a) (.str b) = (a == b) := rfl
@[simp] theorem eqF_ii (a b : Int) : eqF (.int a) (.int b) = (a == b) := rfl
@[simp] theorem flat_one (l : List Nat) : (l.map fun c => [c]).flatten = l := by
  induction l with
  | nil => rfl
  | cons a l ih => simp [ih]
@[simp] theorem sum_one (l : List Nat) : (l.map ((fun x : List Nat => x.length) ∘ fun c => [c])).sum = l.length := by
  induction l with
  | nil => rfl
  | cons a l ih => simp [ih]; omega
@[simp] theorem sgs_length (l : List Nat) : (sgs l).length = l.length := by simp [sgs]
@[simp] theorem rng1_length (a : Int) (n : Nat) : (rng1 a n).length = n := by simp [rng1]
@[simp] theorem rng_length (a b : Int) (n : Nat) : (rng a b n).length = n := by simp [rng]
@[simp] theorem rng1_zero (n : Nat) : rng1 0 n = (List.range n).map fun k => Dat.int (k : Nat) := by simp [rng1]
theorem rng1_get {a : Int} {n i : Nat} {d : Dat} (h : (rng1 a n)[i]? = some d) : i < n ∧ d = .int (a + (i : Nat)) := by
  unfold rng1 at h
  rw [List.getElem?_map] at h
  by_cases hi : i < n
  · simp [hi] at h
    exact ⟨hi, h.symm⟩
  · simp [hi] at h
end Dl

/-! text[p::n] -/
namespace Dl
open PySem PySem.Spec PyProof.Rows L2
def cnt (len p n : Nat) : Nat := (len - p + n - 1) / n
theorem idx_is (len p n : Nat) (hn : 1 ≤ n) : Builtin.Str.strSliceIndices (some (p : Int)) none (n : Int) len = (List.range (cnt len p n)).map fun k => min p len + k * n := by
  unfold Builtin.Str.strSliceIndices sliceRange
  have h0 : (n : Int) > 0 := by omega
  have h1 : ¬ ((p : Int) < 0) := by omega
  simp only [h1, if_false, h0, if_true, gt_iff_lt]
  have e : max (0 : Int) (min (p : Int) (len : Int)) = ((min p len : Nat) : Int) := by omega
  rw [e]
  have c : (if ((min p len : Nat) : Int) < (len : Int) then ((len : Int) - ((min p len : Nat) : Int) + (n : Int) - 1) / (n : Int) else 0).toNat = cnt len p n := by
    unfold cnt
    by_cases hp : p < len
    · rw [Nat.min_eq_left (by omega), if_pos (by omega)]
      have : (len : Int) - (p : Int) + (n : Int) - 1 = ((len - p + n - 1 : Nat) : Int) := by omega
      rw [this]
      rfl
    · rw [Nat.min_eq_right (by omega), if_neg (by omega)]
      have : len - p = 0 := by omega
      rw [this, Nat.zero_add, Nat.div_eq_of_lt (by omega)]
      rfl
  rw [c]
  refine List.map_congr_left fun k _ => ?_
  have : ((min p len : Nat) : Int) + (n : Int) * (k : Int) = ((min p len + k * n : Nat) : Int) := by
    rw [Int.natCast_add, Int.natCast_mul, Int.mul_comm]
  rw [this]
  rfl
theorem filterMap_range_self : ∀ l : List Nat, (List.range l.length).filterMap (l[·]?) = l := by
  intro l
  apply List.ext_getElem?
  intro i
  have e : ∀ m, m ≤ l.length → (List.range m).filterMap (l[·]?) = l.take m := by
    intro m
    induction m with
    | zero => intro _; rfl
    | succ m ih =>
      intro h
      rw [List.range_succ, List.filterMap_append, ih (by omega), List.take_add_one]
      have : l[m]? = some l[m] := List.getElem?_eq_getElem (by omega)
      simp [this]
  rw [e _ (Nat.le_refl _), List.take_length]
theorem stepL_is (l : List Nat) (p n : Nat) (hn : 1 ≤ n) : stepL l (p : Nat) (n : Nat) = (List.range (cnt l.length p n)).filterMap fun k => l[min p l.length + k * n]? := by
  unfold stepL
  rw [idx_is l.length p n hn]
  by_cases c : ((n : Int) == 1 && ((List.range (cnt l.length p n)).map fun k => min p l.length + k * n).length == l.length) = true
  · rw [if_pos c]
    obtain ⟨c1, c2⟩ := Bool.and_eq_true_iff.mp c
    have n1 : n = 1 := by have := eq_of_beq c1; omega
    have c3 : cnt l.length p n = l.length := by simpa using c2
    subst n1
    rw [c3]
    by_cases hl : l.length = 0
    · have : l = [] := List.length_eq_zero_iff.mp hl
      subst this; rfl
    · have hp : p = 0 := by unfold cnt at c3; simp at c3; omega
      subst hp
      conv => lhs; rw [← filterMap_range_self l]
      congr 1
      funext k
      simp
  · rw [if_neg c, List.filterMap_map]
    rfl
theorem stepL_len (l : List Nat) (p n : Nat) (hn : 1 ≤ n) : (stepL l (p : Nat) (n : Nat)).length ≤ l.length := by
  rw [stepL_is l p n hn]
  refine Nat.le_trans (List.length_filterMap_le _ _) ?_
  rw [List.length_range]
  unfold cnt
  by_cases h : l.length - p = 0
  · rw [h, Nat.zero_add, Nat.div_eq_of_lt (by omega)]; omega
  · refine Nat.le_trans (m := l.length - p) (Nat.div_le_of_le_mul ?_) (Nat.sub_le _ _)
    have : l.length - p + n - 1 = (l.length - p) + (n - 1) := by omega
    rw [this]
    have h2 : (n - 1) ≤ (n - 1) * (l.length - p) := Nat.le_mul_of_pos_right _ (by omega)
    have h3 : n * (l.length - p) = (n - 1) * (l.length - p) + (l.length - p) := by
      conv => lhs; rw [show n = (n - 1) + 1 by omega, Nat.add_mul, Nat.one_mul]
    omega
theorem stepL_mem (l : List Nat) (p n c : Nat) (hn : 1 ≤ n) : c ∈ stepL l (p : Nat) (n : Nat) ↔ ∃ j, l[p + j * n]? = some c := by
  rw [stepL_is l p n hn, List.mem_filterMap]
  constructor
  · rintro ⟨k, hk, e⟩
    have hk := List.mem_range.mp hk
    by_cases hp : p < l.length
    · rw [Nat.min_eq_left (by omega)] at e
      exact ⟨k, e⟩
    · unfold cnt at hk
      have : l.length - p = 0 := by omega
      rw [this, Nat.zero_add, Nat.div_eq_of_lt (by omega)] at hk
      omega
  · rintro ⟨j, e⟩
    obtain ⟨hj, _⟩ := List.getElem?_eq_some_iff.mp e
    have hp : p < l.length := Nat.lt_of_le_of_lt (Nat.le_add_right _ _) hj
    refine ⟨j, List.mem_range.mpr ?_, by rw [Nat.min_eq_left (by omega)]; exact e⟩
    unfold cnt
    rw [Nat.lt_div_iff_mul_lt (by omega)]
    omega
/-- for a place below the length of the rim -/
theorem stepL_mod (l : List Nat) (p n c : Nat) (hp : p < n) : c ∈ stepL l (p : Nat) (n : Nat) ↔ ∃ i, l[i]? = some c ∧ i % n = p := by
  rw [stepL_mem l p n c (by omega)]
  constructor
  · rintro ⟨j, e⟩
    exact ⟨p + j * n, e, by rw [Nat.add_mul_mod_self_right, Nat.mod_eq_of_lt hp]⟩
  · rintro ⟨i, e, m⟩
    refine ⟨i / n, ?_⟩
    have := Nat.mod_add_div i n
    rw [m, Nat.mul_comm] at this
    rw [this]; exact e
end Dl

/-! a sign that was just drawn, and a text's replace with it -/
namespace Dl
open PySem PySem.Spec PyProof.Rows L2
section
variable {X : Cx} {pins : List (Addr × Obj)} {σ : Sg} {H : Hp} {s : Shared} {i : Nat} {x : Str} {v : V} {u : Value} {m : Str → Option Value} {h' : Heap}
/-- behind a store to a local name -/
theorem inv_put (I : Inv X pins σ H s) (hN : X.N.Nodup) (hi : X.N[i]? = some x) (hk : X.env.scope.names.lookup x = some .local) (r : RelV v u)
    (hl : ∀ (i : Nat) (x : Str) (v : V), X.N[i]? = some x → σ[i]? = some (some v) → Vis X.env.scope x → ∃ u, RelV v u ∧ Look X.env s.heap m x u)
    (hn' : h'.Ns X.env.locals (fun y => if y = x then some u else m y)) (hs : Heap.SameBut X.env.locals s.heap h') : Inv X pins (σ.set i (some v)) H { s with heap := h', toks := s.toks + 1 } := by
  have il : i < σ.length := by rw [I.len]; exact (List.getElem?_eq_some_iff.mp hi).1
  have old : ∀ {b : Addr}, b ≠ X.env.locals → h'.get? b = s.heap.get? b := fun hb => hs.2 _ hb
  have low : ∀ {b : Addr} {o : Obj}, X.s_0.heap.get? b = some o → b ≠ X.env.locals := fun e => Nat.ne_of_lt (Nat.lt_of_lt_of_le (Heap.lt_size e) I.ok.above)
  have ne : ∀ {b : Addr}, H b ≠ none → b ≠ X.env.locals := fun hb z => hb (by rw [z]; exact I.free)
  have bse : Un X.fs X.ex X.H_0 H X.s_0.heap h' :=
    ⟨fun b o e n hb hx => (old (low e)).trans (I.base.keep b o e n hb hx), fun b o e n hb hx => (I.base.slot b o e n hb hx).imp fun sl q => (old (low e)).trans q, I.base.free,
      fun b o e hx => (I.base.there b o e hx).imp fun o' q => (old (low e)).trans q, I.base.tups, I.base.frzs, I.base.tbls⟩
  refine ⟨I.ok, I.os, I.bare, bse, ⟨_, hn', fun j y v' e1 e2 e3 => ?_⟩, fun y c e => (I.cell y c e).imp fun w z => z.sameBut hs (I.cne y c e), I.free, I.freeC, fun p hp => ?_, fun b ob e => ?_, by rw [List.length_set]; exact I.len⟩
  · by_cases hj : j = i
    · subst hj
      have ey : y = x := Option.some.inj (e1.symm.trans hi)
      have ev : v' = v := by rw [List.getElem?_set_self il] at e2; exact (Option.some.inj (Option.some.inj e2)).symm
      subst ey ev
      exact ⟨u, r, .inl ⟨hk, if_pos rfl⟩⟩
    · rw [List.getElem?_set_ne (Ne.symm hj)] at e2
      obtain ⟨u', r', q⟩ := hl j y v' e1 e2 e3
      refine ⟨u', r', q.imp (fun ⟨k, e⟩ => ⟨k, (if_neg (show ¬ y = x from fun e4 => hj (nodup_ix hN (e4 ▸ e1) hi))).trans e⟩) fun ⟨k, c, e, z⟩ => ⟨k, c, e, z.sameBut hs (I.cne y c e)⟩⟩
  · obtain ⟨e, n, np, nf, d⟩ := I.pin p hp
    exact ⟨(old np).trans e, n, np, nf, d⟩
  · refine (I.hok b ob e).stay (fun c w' hc q => (old ?_).trans q) (fun _ q => q) fun _ _ q => q
    rcases hc with rfl | hc
    · exact ne (by rw [e]; exact fun z => by cases z)
    · exact ne (by rw [hc]; exact fun z => by cases z)

/-- x holds the text c, a token of its own -/
def Drawn1 (X : Cx) (x c : Str) (s : Shared) : Prop := ∃ m T, s.heap.Ns X.env.locals m ∧ m x = some (.str c T) ∧ T ≠ 0 ∧ T < s.toks
theorem Drawn1.tok {c : Str} (D : Drawn1 X x c s) {k : Nat} (h : s.toks ≤ k) : Drawn1 X x c { s with toks := k } :=
  let ⟨m, T, a, b, e, f⟩ := D; ⟨m, T, a, b, e, Nat.lt_of_lt_of_le f h⟩
/-- t[k].replace('..', x) -/
theorem rep_arg {j k : Nat} {jj1 jj2 : Nat} {t y : Str} {a : Addr} {xs : List V} {z c : Str} {p1 p2 p3 p4 p5 apos cpos : Pos} {Q : Value → Shared → Prop} (hD : Drawn1 X x c s) (I : Inv X pins σ H s) (hk : X.env.scope.names.lookup x = some .local)
    (hNt : X.N[j]? = some t) (hvt : Vis X.env.scope t) (ht : σ[j]? = some (some (.ref a))) (hS : SqT X.K H a xs) (hz : xs[k]? = some (.str z)) (hk2 : k < 1000) (hyc : (y == c) = false) (hb : z.length + (z.length + 1) * c.length ≤ 16777216)
    (hQ : ∀ s' T, s'.heap = s.heap → s.toks ≤ s'.toks → Inv X pins σ H s' → Drawn1 X x c s' → Q (.str (Txt.replace z y c) T) s')
    (hbase : attributeBase (.Subscript (.Name t p1) (.Constant (.int (k : Nat)) jj1 p2) p3) "replace" X.env (eval (.Subscript (.Name t p1) (.Constant (.int (k : Nat)) jj1 p2) p3) X.env) = eval (.Subscript (.Name t p1) (.Constant (.int (k : Nat)) jj1 p2) p3) X.env)
    (hst : starEach [.Constant (.str y) jj2 p4, .Name x p5] X.env = [(false, eval (.Constant (.str y) jj2 p4) X.env), (false, eval (.Name x p5) X.env)]) (hline : (apos.endLine == cpos.line) = true) (hdt : (t == ("__debug__" : Str)) = false) (hct : (t == ("__classdict__" : Str)) = false) (hdx : (x == ("__debug__" : Str)) = false) :
    wpAny (model X.prog X.w) X.A (eval (.Call (.Attribute (.Subscript (.Name t p1) (.Constant (.int (k : Nat)) jj1 p2) p3) "replace" apos) [.Constant (.str y) jj2 p4, .Name x p5] [] cpos) X.env) Q X.xe s := by
  obtain ⟨its, rv, pl, hz2⟩ := I.tuple hS
  obtain ⟨w, hw, rw'⟩ := rv.get hz
  obtain ⟨tz, rfl⟩ := rw'
  have hlen : k < its.length := (List.getElem?_eq_some_iff.mp hw).1
  have kl1 : -(2 ^ 63 : Int) ≤ ((k : Nat) : Int) := by
    have : -(2 ^ 63 : Int) ≤ 0 := by decide
    omega
  have kl2 : ((k : Nat) : Int) < (2 ^ 63 : Int) := by
    have : (1000 : Int) < 2 ^ 63 := by decide
    omega
  have kx : seqIndex? ((k : Nat) : Int) its.length = some k := by
    rw [seqIndex_of (show (0 : Int) ≤ ((k : Nat) : Int) from Int.natCast_nonneg k) (show ((k : Nat) : Int) < (its.length : Int) from Int.ofNat_lt.mpr hlen)]; simp
  refine PySem.Call_method2 hbase hst hline (Subscript_ (raw_name hNt hvt I ht (fun v r => ?_) hdt hct))
  obtain rfl : v = Value.ref a := r
  refine wpAny_Constant_int (item_tuple (k := ((k : Nat) : Int)) (j := k) (x := .str z tz) (show IsTup _ a its.toArray from pl) kl1 kl2 (by rw [List.size_toArray]; exact kx) (by simpa using hw) ?_ ?_ ?_)
  · refine ⟨"str", _, PySem.F.plainAttrs_str, PySem.F.slot_str_replace, PySem.F.type_str_replace, typeIs_str _ _ _, (fun _ e => nomatch e), Calls.callWith_builtin rfl (Calls.evalArgs_plain (Calls.spliced_cons (Calls.Constant_str (Calls.spliced_cons ?_))))⟩
    obtain ⟨m, T, hn, hm, h0, hT⟩ := hD
    refine wpAny_Name (wpAny_loadName_local I.ok.kind hk hn hm (Calls.spliced_nil ?_)) hdx
    have h := PySem.SC.replace (prog := X.prog) (w := X.w) (A := X.A) (E := X.xe) (s := { s with toks := s.toks + 1 + 1 }) (x := z) (y := y) (z := c) (t := tz) (u := s.toks + 1) (v := T) (Q := fun v s' => ∃ T' k', v = .str (Txt.replace z y c) T' ∧ s' = { s with toks := k' }) (Nat.succ_ne_zero s.toks) h0 (Nat.ne_of_gt (Nat.lt_succ_of_lt hT)) hyc hb fun t' k => ⟨t', k, rfl, rfl⟩
    refine wpAny_mono (wpAny_toks h) (fun v s' q => ?_) fun _ _ q => q.2
    obtain ⟨le, T', k', rfl, rfl⟩ := q
    have le2 : s.toks ≤ k' := Nat.le_trans (by omega : s.toks ≤ s.toks + 1 + 1) le
    exact hQ _ T' rfl le2 (I.tok k') ⟨m, T, hn, hm, h0, Nat.lt_of_lt_of_le hT le2⟩
  · with_unfolding_all rfl
  · intro _; with_unfolding_all rfl
end

/-! ### x = 'abc'[e]; if not f(y, t[0].replace('..', x), t[1].replace('..', x)): .. -/
def tMark (K : PySem.W.Frag) (im is it : Nat) (abc y : Str) (te : TE) (sp : Sp) (tb tr : TS) : TS := fun D σ H => te σ H fun k H1 => ∃ (j : Int) (c : Nat) (w : V) (a : Addr) (r u : Str), k = .int j ∧ atI abc.cps.toList j = some c ∧ abc.length ≤ 1000 ∧ (y == (⟨#[c]⟩ : Str)) = false ∧
  σ[is]? = some (some w) ∧ σ[it]? = some (some (.ref a)) ∧ is ≠ im ∧ it ≠ im ∧ SqT K H1 a [.str r, .str u] ∧ r.length ≤ 100000 ∧ u.length ≤ 100000 ∧
  sp [w, .str (Txt.replace r y ⟨#[c]⟩), .str (Txt.replace u y ⟨#[c]⟩)] H1 (fun v H2 => ∃ b, v = .bl b ∧ (b = true → tr D (σ.set im (some (.str ⟨#[c]⟩))) H2) ∧ (b = false → tb { D with nx := tr D } (σ.set im (some (.str ⟨#[c]⟩))) H2)) E0
section
variable {X : Cx}
theorem pss_mark {im is it k j j1 j2 j3 j4 j5 : Nat} {x sn t f abc y : Str} {e : Expr} {te : TE} {sp : Sp} {sb rest : List Stmt} {tb tr : TS} {px pc ps pa pf p1 p2 p3 p4 p5 p6 p7 p8 p9 p10 p11 a1 a2 c1 c2 cp np ip : Pos}
    (F : Kn X.prog X.w X.K X.mg X.base f sp k) (hr : Room j X.A) (hj : k ≤ j) (he : PE X e te) (hb : PSs X sb tb) (ht : PSs X rest tr) (hN : X.N.Nodup)
    (hx : X.N[im]? = some x) (hk : X.env.scope.names.lookup x = some .local) (hs : X.N[is]? = some sn) (vs : Vis X.env.scope sn) (hT : X.N[it]? = some t) (vt : Vis X.env.scope t) (hg : Gl X f)
    (d1 : (x == ("__debug__" : Str)) = false) (d2 : (t == ("__debug__" : Str)) = false) (d3 : (t == ("__classdict__" : Str)) = false) (d4 : (sn == ("__debug__" : Str)) = false) (d5 : (sn == ("__classdict__" : Str)) = false) (d6 : (f == ("__debug__" : Str)) = false)
    (hpi : PlainIx e) (hsw : swapsWith (.Subscript (.Constant (.str abc) j1 pc) e ps) (some (.Name x px)) pa.line X.env = pure false)
    (b1 : attributeBase (.Subscript (.Name t p1) (.Constant (.int ((0 : Nat) : Int)) j2 p2) p3) "replace" X.env (eval (.Subscript (.Name t p1) (.Constant (.int ((0 : Nat) : Int)) j2 p2) p3) X.env) = eval (.Subscript (.Name t p1) (.Constant (.int ((0 : Nat) : Int)) j2 p2) p3) X.env)
    (sr1 : starEach [.Constant (.str y) j3 p4, .Name x p5] X.env = [(false, eval (.Constant (.str y) j3 p4) X.env), (false, eval (.Name x p5) X.env)]) (l1 : (a1.endLine == c1.line) = true)
    (b2 : attributeBase (.Subscript (.Name t p6) (.Constant (.int ((1 : Nat) : Int)) j4 p7) p8) "replace" X.env (eval (.Subscript (.Name t p6) (.Constant (.int ((1 : Nat) : Int)) j4 p7) p8) X.env) = eval (.Subscript (.Name t p6) (.Constant (.int ((1 : Nat) : Int)) j4 p7) p8) X.env)
    (sr2 : starEach [.Constant (.str y) j5 p9, .Name x p10] X.env = [(false, eval (.Constant (.str y) j5 p9) X.env), (false, eval (.Name x p10) X.env)]) (l2 : (a2.endLine == c2.line) = true)
    (st : ∀ A B : Expr, A = .Call (.Attribute (.Subscript (.Name t p1) (.Constant (.int ((0 : Nat) : Int)) j2 p2) p3) "replace" a1) [.Constant (.str y) j3 p4, .Name x p5] [] c1 → B = .Call (.Attribute (.Subscript (.Name t p6) (.Constant (.int ((1 : Nat) : Int)) j4 p7) p8) "replace" a2) [.Constant (.str y) j5 p9, .Name x p10] [] c2 →
      starEach [.Name sn p11, A, B] X.env = (false, eval (.Name sn p11) X.env) :: starEach [A, B] X.env ∧ starEach [A, B] X.env = (false, eval A X.env) :: starEach [B] X.env ∧ starEach [B] X.env = (false, eval B X.env) :: starEach [] X.env ∧ (backTo cp (starEach [A, B] X.env)).any (·.1) = false ∧
      ∀ whole, isTrue (.Call (.Name f pf) [.Name sn p11, A, B] [] cp) X.env whole = (do let v ← whole; standAt (Expr.Call (.Name f pf) [.Name sn p11, A, B] [] cp).pos; holding [v] (truthy v))) :
    PSs X (.Assign [.Name x px] (.Subscript (.Constant (.str abc) j1 pc) e ps) pa :: .If (.UnaryOp .Not (.Call (.Name f pf) [.Name sn p11, .Call (.Attribute (.Subscript (.Name t p1) (.Constant (.int ((0 : Nat) : Int)) j2 p2) p3) "replace" a1) [.Constant (.str y) j3 p4, .Name x p5] [] c1,
      .Call (.Attribute (.Subscript (.Name t p6) (.Constant (.int ((1 : Nat) : Int)) j4 p7) p8) "replace" a2) [.Constant (.str y) j5 p9, .Name x p10] [] c2] [] cp) np) sb [] ip :: rest) (tMark X.K im is it abc y te sp tb tr) := by
  obtain ⟨fa, fd, pps, F, hm, kp, bb⟩ := F.ex
  obtain ⟨st1, st2, st3, st4, st5⟩ := st _ _ rfl rfl
  refine ⟨fun pins s σ H D I h => ?_⟩
  refine wpAny_execs_cons (wpAny_Assign_Name (Subscript_ (Calls.Constant_str ?_)) hsw)
  have I0 : Inv X pins σ H { s with toks := s.toks + 1 } := I.tok _
  refine wpAny_mono (wpAny_toks (he.run pins _ σ H _ I0 h)) (fun kv s1 q => ?_) fun _ _ q => q.2
  obtain ⟨le, xk, H1, I1, rk, i, c, w, a, r, u, rfl, hc, hl, hyc, hw, ha, n1, n2, hS, z1, z2, q⟩ := q
  obtain ⟨t', rfl⟩ := rk
  have le' : s.toks + 1 ≤ s1.toks := le
  obtain ⟨jj, g1, g2, g3, g4, g5⟩ := atI_get hc
  have hl2 : abc.cps.toList.length = abc.length := by simp [Str.length]
  rw [hl2] at g1 g4 g5
  have hcls : (X.env.scope.kind == .class || (X.env.scope.kind == .module && X.env.locals != X.env.globals)) = false := by rw [I.ok.kind]; rfl
  refine tail_any (typeIs_str s1 abc s.toks) PySem.F.slot_str_getitem.lookup (getItem_str (c := c) ?_ (by rw [g1]; simpa using g2) ?_) (hpi _ _)
  · have e1 : decide (i < -(2 ^ 63 : Int)) = false := decide_eq_false (by omega)
    have e2 : decide (i ≥ 2 ^ 63) = false := decide_eq_false (by omega)
    rw [e1, e2, Bool.or_false]
  have I2 : Inv X pins σ H1 { s1 with toks := s1.toks + 1 } := I1.tok _
  obtain ⟨m, hn, hlk⟩ := id I2.loc
  refine wpAny_storeName_local hk hn (fun h' hn' hsb => ?_) hcls
  have I3 := inv_put I2 hN hx hk (v := .str ⟨#[c]⟩) (u := .str ⟨#[c]⟩ s1.toks) ⟨_, rfl⟩ hlk hn' hsb
  have D3 : Drawn1 X x ⟨#[c]⟩ { s1 with heap := h', toks := s1.toks + 1 + 1 } := ⟨_, s1.toks, hn', if_pos rfl, Nat.ne_of_gt (Nat.lt_of_lt_of_le (Nat.succ_pos _) le'), by show s1.toks < s1.toks + 1 + 1; omega⟩
  have hw3 : (σ.set im (some (V.str ⟨#[c]⟩)))[is]? = some (some w) := by rw [List.getElem?_set_ne (Ne.symm n1)]; exact hw
  have ha3 : (σ.set im (some (V.str ⟨#[c]⟩)))[it]? = some (some (.ref a)) := by rw [List.getElem?_set_ne (Ne.symm n2)]; exact ha
  refine wpAny_execs_cons (wpAny_If (isTrue_not (isTrue_plain (wpAny_Call_Name_kw (ld_glob I3 hg hm ?_ d6)) (st5 _))))
  refine PySem.W.callWith_K (h₀ := X.base) I3.ok.mod.kin kp ?_ st1 st4
  rw [st1]
  show wpAny _ _ (spliced ((false, eval (.Name sn p11) X.env) :: backTo cp (starEach _ X.env))) _ _ _
  refine Calls.spliced_cons (raw_name hs vs I3 hw3 (fun wv rw' => ?_) d4 d5)
  rw [st2]
  show wpAny _ _ (spliced ((false, eval _ X.env) :: backTo cp (starEach _ X.env))) _ _ _
  have c1' : (1 : Nat) = (⟨#[c]⟩ : Str).length := rfl
  refine Calls.spliced_cons (rep_arg (k := 0) D3 I3 hk hT vt ha3 hS rfl (by decide) hyc (by rw [← c1']; omega) (fun s4 T4 e4 le4 I4 D4 => ?_) b1 sr1 l1 d2 d3 d1)
  rw [st3]
  show wpAny _ _ (spliced ((false, eval _ X.env) :: backTo cp (starEach [] X.env))) _ _ _
  refine Calls.spliced_cons (rep_arg (k := 1) D4 I4 hk hT vt ha3 hS rfl (by decide) hyc (by rw [← c1']; omega) (fun s5 T5 e5 le5 I5 D5 => ?_) b2 sr2 l2 d2 d3 d1)
  refine Calls.spliced_nil ⟨I5.kIn, ?_⟩
  refine thn (run_fn (E := E0) F (hr.mono hj) bb (dvs := []) .nil passX0 I5 (vs := [w, .str (Txt.replace r y ⟨#[c]⟩), .str (Txt.replace u y ⟨#[c]⟩)]) (.cons rw' (.cons ⟨_, rfl⟩ (.cons ⟨_, rfl⟩ .nil))) (show sp ([w, .str (Txt.replace r y ⟨#[c]⟩), .str (Txt.replace u y ⟨#[c]⟩)] ++ []) H1 _ E0 from q)) fun v s6 ⟨x6, H6, I6, r6, b, e6, q6⟩ => ?_
  subst e6
  cases r6
  refine wpAny_truthy_bool ?_
  cases b with
  | true => exact iteF (wpAny_execs_nil (ht.run pins s6 _ H6 D I6 (q6.1 rfl)))
  | false =>
    refine iteT (thn (hb.run pins s6 _ H6 { D with nx := tr D } I6 (q6.2 rfl)) fun fl s7 q7 => ?_)
    cases fl with
    | next =>
      obtain ⟨σ7, H7, I7, q7⟩ := q7
      exact ht.run pins s7 σ7 H7 D I7 q7
    | ret v => exact q7
    | brk => exact q7
    | cont => exact q7
end
end Dl

namespace Dl
open PySem PySem.Spec PyProof.Rows L2
def rep1 (y c : Nat) (l : List Nat) : List Nat := l.map fun x => if x = y then c else x
@[simp] def asTT : Dat → (List Nat → List Nat → Prop) → Prop
  | .tup [.str r, .str u], k => k r u
  | _, _ => False
theorem asTT_of {d : Dat} {k : List Nat → List Nat → Prop} (h : asTT d k) : ∃ r u, d = .tup [.str r, .str u] ∧ k r u := by
  unfold asTT at h
  split at h
  · exact ⟨_, _, rfl, h⟩
  · exact h.elim
theorem rep1_is (y c : Nat) (l : List Nat) : Txt.replace (tx l) (tx [y]) (tx [c]) = tx (rep1 y c l) := by
  rw [← tx_toList (Txt.replace (tx l) (tx [y]) (tx [c])), PySem.StrLaws.replace_list (by simp [tx_length])]
  congr 1
  rw [tx_cps, tx_cps, tx_cps]
  unfold rep1
  induction l with
  | nil => rw [PySem.StrLaws.replL_nil]; rfl
  | cons x l ih =>
    by_cases e : x = y
    · rw [PySem.StrLaws.replL_hit (by simp) (by simp [e]), List.map_cons, if_pos e]
      show [c] ++ PySem.StrLaws.replL [y] [c] ((x :: l).drop 1) = _
      rw [List.drop_succ_cons, List.drop_zero, ih]
      rfl
    · rw [PySem.StrLaws.replL_miss (by simp [e]), ih, List.map_cons, if_neg e]
section
variable {S : Type} {D : DX S} {X : Cx}
@[simp] def dMark (im is it : Nat) (abc : List Nat) (y : Nat) (ed : TD S) (pd : PD) (db dr : TDS S) : TDS S := fun De ρ s => ed ρ s fun k s1 => asI k fun j => ∃ c, atI abc j = some c ∧ abc.length ≤ 1000 ∧ c ≠ y ∧ (look ρ is).asDat fun w => (look ρ it).asDat fun tt => asTT tt fun r u => r.length ≤ 100000 ∧ u.length ≤ 100000 ∧
  pd [w, .str (rep1 y c r), .str (rep1 y c u)] (fun d => asB d fun b => (b = true → dr De (ρ.set im (.dat (.str [c]))) s1) ∧ (b = false → db { De with nx := dr De } (ρ.set im (.dat (.str [c]))) s1)) fun _ => False
theorem ls_mark {K : PySem.W.Frag} {im is it : Nat} {abc : List Nat} {y : Nat} {te : TE} {ed : TD S} {pd : PD} {tb tr : TS} {db dr : TDS S} (n1 : is ≠ im) (n2 : it ≠ im) (he : LE D K te ed) (hb : LS D K tb db) (hr : LS D K tr dr) :
    LS D K (tMark K im is it (tx abc) (tx [y]) te (spP K 3 pd) tb tr) (dMark im is it abc y ed pd db dr) := fun σ H ρ s De E A h F => by
  refine he _ σ H ρ s _ _ A.at_ h fun v H1 d s1 e1 i1 r1 q1 => ?_
  obtain ⟨j, rfl, c, hc, hl, hy, q1⟩ := asI_of q1
  obtain ⟨w, ew, q1⟩ := Sl.asDat_of q1
  obtain ⟨tt, et, q1⟩ := Sl.asDat_of q1
  obtain ⟨r, u, rfl, b1, b2, q⟩ := asTT_of q1
  unfold Rp at r1; subst r1
  have A1 := A.go e1 i1
  obtain ⟨wv, hw, rw'⟩ := A1.at_.env.dat is _ (look_dat ew)
  obtain ⟨tv, ht, rt⟩ := A1.at_.env.dat it _ (look_dat et)
  unfold Rp at rt
  obtain ⟨a, ys, rfl, rs, ra⟩ := rt
  obtain ⟨v1, v2, rfl, rv1, rv2⟩ := ra.two
  unfold Rp at rv1 rv2; subst rv1 rv2
  have fin : ∀ {v : V} {H2 : Hp} {d : Dat}, Same H1 H2 → True := fun _ => trivial
  refine ⟨j, c, wv, a, tx r, tx u, rfl, by simpa using hc, by rw [tx_length]; exact hl, ?_, hw, ht, n1, n2, rs.sq, by rw [tx_length]; exact b1, by rw [tx_length]; exact b2, ?_⟩
  · refine beq_eq_false_iff_ne.mpr fun z => hy ?_
    have := tx_inj (a := [y]) (b := [c]) z
    exact (List.cons.inj this).1.symm
  have er : Txt.replace (tx r) (tx [y]) ⟨#[c]⟩ = tx (rep1 y c r) := rep1_is y c r
  have eu : Txt.replace (tx u) (tx [y]) ⟨#[c]⟩ = tx (rep1 y c u) := rep1_is y c u
  rw [er, eu]
  refine ⟨rfl, ownAV D.A0 σ ρ, _, _, _, A1.at_.trk, .cons rw' (.cons rp_str (.cons rp_str .nil)), q, fun v H2 d sm r2 q2 => ?_, fun c dx H2 _ z => z.elim⟩
  obtain ⟨b, rfl, q2⟩ := asB_of q2
  unfold Rp at r2
  have A2 := A1.go (ExtB.of sm) (D.C.keep A1.at_.inv fun a o _ e => sm a o e)
  have A3 := A2.set (i := im) (v := .str (tx [c])) (d := .str [c]) rp_str
  have rel : Rel (ownAV D.A0 σ ρ) H (ownAV D.A0 (σ.set im (some (.str (tx [c])))) (ρ.set im (.dat (.str [c])))) H2 := ((e1.rel A.at_).trans ((ExtB.of sm).rel A1.at_)).trans ⟨fun _ _ _ h => h, fun a z => .inl (ownAV_set a z)⟩
  have F3 := F.go rel
  refine ⟨b, r2, fun e => ?_, fun e => ?_⟩
  · exact hr _ H2 _ s1 De E A3 (q2.1 e) F3
  · refine hb _ H2 _ s1 _ _ A3 (q2.2 e) ⟨fun σ' H' ρ' s' A' r' q' => ?_, F3.rt, F3.bk, F3.ct, F3.rn⟩
    exact hr σ' H' ρ' s' De E A' q' (F3.go r')
theorem dss_mark {im is it k j j1 j2 j3 j4 j5 y : Nat} {x sn t f abcS yS : Str} {abc : List Nat} {e : Expr} {te : TE} {ed : TD S} {pd : PD} {sb rest : List Stmt} {tb tr : TS} {db dr : TDS S} {px pc ps pa pf p1 p2 p3 p4 p5 p6 p7 p8 p9 p10 p11 a1 a2 c1 c2 cp np ip : Pos}
    (F : Kn X.prog X.w X.K X.mg X.base f (spP X.K 3 pd) k) (hr : Room j X.A) (he : DE X D e te ed) (hb : DSs X D sb tb db) (ht : DSs X D rest tr dr) (hN : X.N.Nodup) (n1 : is ≠ im) (n2 : it ≠ im) (ea : abcS.cps.toList = abc := by decide +kernel) (ey : yS.cps.toList = [y] := by decide +kernel) (hj : k ≤ j := by decide)
    (hx : X.N[im]? = some x := by rfl) (hk : X.env.scope.names.lookup x = some .local := by rfl) (hs : X.N[is]? = some sn := by rfl) (vs : Vis X.env.scope sn := by first | exact Or.inl rfl | exact Or.inr (Or.inl rfl)) (hT : X.N[it]? = some t := by rfl) (vt : Vis X.env.scope t := by first | exact Or.inl rfl | exact Or.inr (Or.inl rfl)) (hg : Gl X f := by rfl)
    (d1 : (x == ("__debug__" : Str)) = false := by decide) (d2 : (t == ("__debug__" : Str)) = false := by decide) (d3 : (t == ("__classdict__" : Str)) = false := by decide) (d4 : (sn == ("__debug__" : Str)) = false := by decide) (d5 : (sn == ("__classdict__" : Str)) = false := by decide) (d6 : (f == ("__debug__" : Str)) = false := by decide)
    (hpi : PlainIx e := by exact fun _ _ => rfl) (hsw : swapsWith (.Subscript (.Constant (.str abcS) j1 pc) e ps) (some (.Name x px)) pa.line X.env = pure false := by rfl)
    (b1 : attributeBase (.Subscript (.Name t p1) (.Constant (.int ((0 : Nat) : Int)) j2 p2) p3) "replace" X.env (eval (.Subscript (.Name t p1) (.Constant (.int ((0 : Nat) : Int)) j2 p2) p3) X.env) = eval (.Subscript (.Name t p1) (.Constant (.int ((0 : Nat) : Int)) j2 p2) p3) X.env := by rfl)
    (sr1 : starEach [.Constant (.str yS) j3 p4, .Name x p5] X.env = [(false, eval (.Constant (.str yS) j3 p4) X.env), (false, eval (.Name x p5) X.env)] := by rfl) (l1 : (a1.endLine == c1.line) = true := by rfl)
    (b2 : attributeBase (.Subscript (.Name t p6) (.Constant (.int ((1 : Nat) : Int)) j4 p7) p8) "replace" X.env (eval (.Subscript (.Name t p6) (.Constant (.int ((1 : Nat) : Int)) j4 p7) p8) X.env) = eval (.Subscript (.Name t p6) (.Constant (.int ((1 : Nat) : Int)) j4 p7) p8) X.env := by rfl)
    (sr2 : starEach [.Constant (.str yS) j5 p9, .Name x p10] X.env = [(false, eval (.Constant (.str yS) j5 p9) X.env), (false, eval (.Name x p10) X.env)] := by rfl) (l2 : (a2.endLine == c2.line) = true := by rfl)
    (st : ∀ A B : Expr, A = .Call (.Attribute (.Subscript (.Name t p1) (.Constant (.int ((0 : Nat) : Int)) j2 p2) p3) "replace" a1) [.Constant (.str yS) j3 p4, .Name x p5] [] c1 → B = .Call (.Attribute (.Subscript (.Name t p6) (.Constant (.int ((1 : Nat) : Int)) j4 p7) p8) "replace" a2) [.Constant (.str yS) j5 p9, .Name x p10] [] c2 →
      starEach [.Name sn p11, A, B] X.env = (false, eval (.Name sn p11) X.env) :: starEach [A, B] X.env ∧ starEach [A, B] X.env = (false, eval A X.env) :: starEach [B] X.env ∧ starEach [B] X.env = (false, eval B X.env) :: starEach [] X.env ∧ (backTo cp (starEach [A, B] X.env)).any (·.1) = false ∧
      ∀ whole, isTrue (.Call (.Name f pf) [.Name sn p11, A, B] [] cp) X.env whole = (do let v ← whole; standAt (Expr.Call (.Name f pf) [.Name sn p11, A, B] [] cp).pos; holding [v] (truthy v)) := by
        intro A B hA hB; subst hA hB; exact ⟨rfl, rfl, rfl, rfl, fun _ => rfl⟩) :
    DSs X D (.Assign [.Name x px] (.Subscript (.Constant (.str abcS) j1 pc) e ps) pa :: .If (.UnaryOp .Not (.Call (.Name f pf) [.Name sn p11, .Call (.Attribute (.Subscript (.Name t p1) (.Constant (.int ((0 : Nat) : Int)) j2 p2) p3) "replace" a1) [.Constant (.str yS) j3 p4, .Name x p5] [] c1,
      .Call (.Attribute (.Subscript (.Name t p6) (.Constant (.int ((1 : Nat) : Int)) j4 p7) p8) "replace" a2) [.Constant (.str yS) j5 p9, .Name x p10] [] c2] [] cp) np) sb [] ip :: rest) (tMark X.K im is it (tx abc) (tx [y]) te (spP X.K 3 pd) tb tr) (dMark im is it abc y ed pd db dr) :=
  by
  have e1 : abcS = tx abc := by rw [← ea, tx_toList]
  have e2 : yS = tx [y] := by rw [← ey, tx_toList]
  subst e1 e2
  exact ⟨pss_mark F hr hj he.pe hb.ps ht.ps hN hx hk hs vs hT vt hg d1 d2 d3 d4 d5 d6 hpi hsw b1 sr1 l1 b2 sr2 l2 st, ls_mark n1 n2 he.le hb.ls ht.ls⟩
end
/-! ### the law's call -/
theorem law_sp {K : PySem.W.Frag} {H : Hp} {a : Addr} {ns : List Int} {pd : PD} (hS : SqL K H a (ns.map V.int)) (h : pd [.sq ns] (fun d => d = .bl true) fun _ => False) : spP K 1 pd [.ref a] H (fun v _ => v = .bl true) fun _ _ _ => False := by
  refine ⟨rfl, fun _ => False, [.sq ns], _, _, fun _ z => z.elim, .cons ?_ .nil, h, fun v H' d _ r e => ?_, fun _ _ _ _ z => z⟩
  · unfold Rp
    refine ⟨a, rfl, ?_⟩
    rcases hS with hS | hS
    · exact .inl ⟨fun z => z, hS⟩
    · exact .inr fun H' => .inr hS
  · subst e
    unfold Rp at r
    exact r
theorem cx_none {P : Program} {w : World} {outer : List Env} {H : Hp} {s s' : Shared} {e : Value} (h : L2.CX P w outer H s (fun _ _ _ => False) e s') : False := by
  obtain ⟨_, _, _, _, _, _, _, _, _, _, _, _, z⟩ := h
  exact z
end Dl

namespace K55
open PySem PySem.Spec PyProof.Rows L2 Dl
def topS (i : Nat) : Stmt := PySem.Challenge.pw_rimprints_k55_whole_no_pair_missed.main.body.getD i (.Pass ⟨0, 0, 0, 0⟩)
structure GF (K : PySem.W.Frag) (mg : Str → Option Value) : Prop where
  n_bool : mg "bool" = none
  n_enumerate : mg "enumerate" = none
  n_int : mg "int" = none
  n_isinstance : mg "isinstance" = none
  n_len : mg "len" = none
  n_list : mg "list" = none
  n_min : mg "min" = none
  n_range : mg "range" = none
  n_set : mg "set" = none
  n_sorted : mg "sorted" = none
  n_str : mg "str" = none
  n_zip : mg "zip" = none
  v_LONGEST_RIM : ∃ t, mg "LONGEST_RIM" = some (.int 40 t)
  v_NO_MARK : ∃ t, mg "NO_MARK" = some (.str "." t)
  v_SEEN_SIGNS : ∃ t, mg "SEEN_SIGNS" = some (.str "abcdefghijklmnopqrstuvwxyz.?" t)
  v_UNSEEN : ∃ t, mg "UNSEEN" = some (.str "?" t)
variable {P : Program} {w : World} {K : PySem.W.Frag} {mg : Str → Option Value} {base : Heap} {fa : Addr}
/-! ### plain functions -/
def seenSigns : List Nat := [97, 98, 99, 100, 101, 102, 103, 104, 105, 106, 107, 108, 109, 110, 111, 112, 113, 114, 115, 116, 117, 118, 119, 120, 121, 122, 46, 63]
def seenAt (l : List Nat) (n p : Nat) : List Nat := (stepL l (p : Nat) (n : Nat)).filter fun c => decide (c ≠ 63)
def signsAt (l : List Nat) (n p : Nat) : List (List Nat) := usort ((seenAt l n p).map fun c => [c])
def rimOn (f : Nat → List (List Nat)) : List Nat → List Nat → Option (List Nat)
  | [], acc => some acc
  | p :: ps, acc => match f p with
    | [] => rimOn f ps (acc ++ [63])
    | [x] => rimOn f ps (acc ++ x)
    | _ => none
def upOn (f : Nat → List (List Nat)) : List Nat → List Nat → List Nat
  | [], acc => acc
  | p :: ps, acc => upOn f ps (acc ++ match f p with
    | [] => [63]
    | [x] => x
    | _ => [46])
def rimOf (l : List Nat) (n : Nat) : Option (List Nat) := rimOn (signsAt l n) (List.range n) []
def upperRim (l : List Nat) (n : Nat) : List Nat := upOn (signsAt l n) (List.range n) []
def beneath (l rim : List Nat) : List Nat := l.mapIdx fun i c => if rim[i % rim.length]? = some 46 then c else 63
theorem enumS_mem {l : List Nat} {d : Dat} (h : d ∈ enumD (sgs l)) : ∃ (i : Nat) (hi : i < l.length), d = .tup [.int (i : Nat), .str [l[i]]] := by
  obtain ⟨i, hi⟩ := List.getElem?_of_mem h
  simp only [enumD, sgs, List.getElem?_mapIdx, List.getElem?_map] at hi
  by_cases hl : i < l.length
  · rw [List.getElem?_eq_getElem hl] at hi
    exact ⟨i, hl, by simpa using hi.symm⟩
  · rw [List.getElem?_eq_none (by omega)] at hi
    cases hi
theorem cm_r {i j : Int} (h : -(2 ^ 64) < j ∧ j < 2 ^ 64) : CMul i j ∨ CMulW i j := .inl (.inr h)
theorem cm_l {i j : Int} (h : -(2 ^ 64) < i ∧ i < 2 ^ 64) : CMul i j ∨ CMulW i j := .inl (.inl h)
theorem cd_r {i j : Int} (h : 0 < j ∧ j < 1073741824) : CDiv i j ∨ CDivW i j := .inl h
theorem beneath_ok {l r : List Nat} (h : okS l) : okS (beneath l r) := fun c hc => by
  unfold beneath at hc
  obtain ⟨i, hi⟩ := List.getElem?_of_mem hc
  rw [List.getElem?_mapIdx] at hi
  cases e : l[i]? with
  | none => rw [e] at hi; cases hi
  | some x =>
    rw [e] at hi
    simp at hi
    split at hi
    · rw [← hi]; exact h x (List.mem_of_getElem? e)
    · omega
theorem upOn_len (f : Nat → List (List Nat)) (hf : ∀ p x, x ∈ f p → x.length = 1) : ∀ ps acc, (upOn f ps acc).length = acc.length + ps.length
  | [], acc => rfl
  | p :: ps, acc => by
    unfold upOn
    rw [upOn_len f hf ps]
    have : (match f p with
      | [] => [63]
      | [x] => x
      | _ => [46] : List Nat).length = 1 := by
      have h := hf p
      generalize f p = Z at h ⊢
      match Z, h with
      | [], _ => rfl
      | [x], h => exact h x (by simp)
      | _ :: _ :: _, _ => rfl
    simp [this]
    omega
def optD : Option (List Nat) → Dat
  | none => .non
  | some r => .str r
/-! ### promises -/
def pd_need_seen : PD := fun ds Q _ => ∃ l, ds = [.str l] ∧ l ≠ [] ∧ (∀ c ∈ l, c ∈ seenSigns) ∧ l.length ≤ big ∧ Q .non
def pd_need_length : PD := fun ds Q _ => ∃ i : Int, ds = [.int i] ∧ 1 ≤ i ∧ i ≤ 40 ∧ Q .non
def pd_seen_at : PD := fun ds Q _ => ∃ (l : List Nat) (n p : Nat), ds = [.str l, .int n, .int p] ∧ 1 ≤ n ∧ l.length ≤ 4000 ∧ Q (.lst ((seenAt l n p).map fun c => .str [c]))
def pd_rim_of : PD := fun ds Q _ => ∃ (l : List Nat) (n : Nat), ds = [.str l, .int n] ∧ 1 ≤ n ∧ n ≤ 40 ∧ l.length ≤ 4000 ∧ okS l ∧ Q (optD (rimOf l n))
def pd_upper_rim : PD := fun ds Q _ => ∃ (l : List Nat) (n : Nat), ds = [.str l, .int n] ∧ 1 ≤ n ∧ n ≤ 40 ∧ l.length ≤ 4000 ∧ okS l ∧ Q (.str (upperRim l n))
def pd_left_beneath : PD := fun ds Q _ => ∃ (l r : List Nat), ds = [.str l, .str r] ∧ r ≠ [] ∧ r.length ≤ 4000 ∧ l.length ≤ 4000 ∧ Q (.str (beneath l r))
abbrev s_need_seen : Stmt := topS 8
abbrev N_need_seen : List Str := ["thing", "sign"]
theorem sc_need_seen : FnScope N_need_seen ["thing"] (defScope s_need_seen) := ⟨rfl, rfl, rfl, by decide +kernel, rfl, by decide +kernel, by decide +kernel⟩
def td_need_seen : TDS (Unit) := dIfS (dOr (dNot (dB (dAp dIsi (dCons (dVar 0) (dCons (dC (.ty "str")) (dNil)))))) (dOr (dB (dOp dEq (dVar 0) (dC (.str [])))) (dB (dOp dNe (dFE (dLc (diStr (dVar 0)) (gdName 1) (dB (dOp dNotIn (dVar 1) (dC (.str [97, 98, 99, 100, 101, 102, 103, 104, 105, 106, 107, 108, 109, 110, 111, 112, 113, 114, 115, 116, 117, 118, 119, 120, 121, 122, 46, 63])))) (dVar 1) [1])) (dFE (dLstF (dNil))))))) (dNever) (dNext)
theorem tm_need_seen (g : GF K mg)  {cdv : Value} {A : Around} {outer : List Env} {s : Shared} {H : Hp} {E : XK} {AV : Av} {Ed : Value → Prop} {hE : ∀ {c dx H'}, ExtB [] H H' → Ed c → E c dx H'} (hr : Room 0 (A.deeper (envOfC "need_seen" (defScope s_need_seen) s.heap.objs.size fa cdv))) :
    ∃ t, DSs (cxOf (L2.CX P w) P w K mg base N_need_seen "need_seen" (defScope s_need_seen) fa cdv A outer s H E) (dx0 H AV E Ed hE) (defBody s_need_seen) t td_need_seen := ⟨_, (dss_one (ds_if (DW.dt (dw_or (dt_not (dt_val (de_callB call_isi lc_isi g.n_isinstance (by rfl) (da_cons (de_var (pv 0)) (da_cons (de_ty g.n_str (by rfl)) da_nil))))) (dw_or (dt_cmp (op_eqA hr) lr_eq (de_var (pv 0)) (de_str []) (nomark _)) (dw_or1 (dt_cmp (op_neA hr) lr_ne (DF.toDE (df_lc (own := [("sign", 1)]) rfl sc_need_seen.nd (di_str (de_var (pv 0))) (blkOk_by (N := N_need_seen) (sc := defScope s_need_seen) (by decide +kernel)) (fun _ _ _ _ _ => (dg_name (i := 1) sc_need_seen.nd)) (fun _ _ _ _ _ => dts_one (dt_cmp (r := rNotInA K) op_notInA lr_notIn (de_var (pv 1)) (de_gstr [97, 98, 99, 100, 101, 102, 103, 104, 105, 106, 107, 108, 109, 110, 111, 112, 113, 114, 115, 116, 117, 118, 119, 120, 121, 122, 46, 63] g.v_SEEN_SIGNS) (by with_unfolding_all rfl))) (fun _ _ _ _ _ => (de_var (pv 1))) (by decide))) (DF.toDE (df_lst da_nil)) (nomark _)))))) (dss_one ds_never) dss_nil))⟩
theorem vc_need_seen {Ed : Value → Prop} (ds : List Dat) (Qd : Dat → Prop) (hl : ds.length = 1) (h : pd_need_seen ds Qd Ed) : td_need_seen { nx := fun _ _ => Qd .non, rt := fun d _ => Qd d } (startD N_need_seen ds) () := by
  obtain ⟨l, rfl, hne, hg, hb, q⟩ := h
  simp [td_need_seen, hne]
  refine ⟨hb, lc_fm (fun _ => false) id (fun d hd C N h1 h2 => ?_) ?_⟩
  · obtain ⟨c, hc, rfl⟩ := List.mem_map.mp hd
    have hm : c ∈ seenSigns := hg c hc
    simp [seenSigns] at hm
    simp
    refine ⟨fun _ => ?_, fun _ => h2 rfl⟩
    intros
    exfalso
    omega
  · rw [show (sgs l).filter (fun _ => false) = [] from by simp]
    simpa using q
abbrev s_need_length : Stmt := topS 9
abbrev N_need_length : List Str := ["thing"]
theorem sc_need_length : FnScope N_need_length ["thing"] (defScope s_need_length) := ⟨rfl, rfl, rfl, by decide +kernel, rfl, by decide +kernel, by decide +kernel⟩
def td_need_length : TDS (Unit) := dIfS (dOr (dNot (dB (dAp dIsi (dCons (dVar 0) (dCons (dC (.ty "int")) (dNil)))))) (dOr (dB (dAp dIsi (dCons (dVar 0) (dCons (dC (.ty "bool")) (dNil))))) (dNot (dB (dChain dLe dLe (dC (.int 1)) (dVar 0) (dC (.int 40))))))) (dNever) (dNext)
theorem tm_need_length (g : GF K mg)  {cdv : Value} {A : Around} {outer : List Env} {s : Shared} {H : Hp} {E : XK} {AV : Av} {Ed : Value → Prop} {hE : ∀ {c dx H'}, ExtB [] H H' → Ed c → E c dx H'} (hr : Room 0 (A.deeper (envOfC "need_length" (defScope s_need_length) s.heap.objs.size fa cdv))) :
    ∃ t, DSs (cxOf (L2.CX P w) P w K mg base N_need_length "need_length" (defScope s_need_length) fa cdv A outer s H E) (dx0 H AV E Ed hE) (defBody s_need_length) t td_need_length := ⟨_, (dss_one (ds_if (DW.dt (dw_or (dt_not (dt_val (de_callB call_isi lc_isi g.n_isinstance (by rfl) (da_cons (de_var (pv 0)) (da_cons (de_ty g.n_int (by rfl)) da_nil))))) (dw_or (dt_val (de_callB call_isi lc_isi g.n_isinstance (by rfl) (da_cons (de_var (pv 0)) (da_cons (de_ty g.n_bool (by rfl)) da_nil)))) (dw_or1 (dt_not (dt_chain op_leA op_leA lr_cmpI lr_cmpI de_int (de_var (pv 0)) (de_gint g.v_LONGEST_RIM))))))) (dss_one ds_never) dss_nil))⟩
theorem vc_need_length {Ed : Value → Prop} (ds : List Dat) (Qd : Dat → Prop) (hl : ds.length = 1) (h : pd_need_length ds Qd Ed) : td_need_length { nx := fun _ _ => Qd .non, rt := fun d _ => Qd d } (startD N_need_length ds) () := by
  obtain ⟨i, rfl, h1, h2, q⟩ := h
  simp [td_need_length]
  exact ⟨fun _ => ⟨h2, fun _ => q⟩, h1⟩
abbrev s_seen_at : Stmt := topS 10
abbrev N_seen_at : List Str := ["seen", "length", "place", "sign"]
theorem sc_seen_at : FnScope N_seen_at ["seen", "length", "place"] (defScope s_seen_at) := ⟨rfl, rfl, rfl, by decide +kernel, rfl, by decide +kernel, by decide +kernel⟩
def td_seen_at : TDS (Unit) := dRet (dFE (dLc (diStr (dStep (dVar 0) (dVar 2) (dVar 1))) (gdName 3) (dB (dOp dNe (dVar 3) (dC (.str [63])))) (dVar 3) [3]))
theorem tm_seen_at (g : GF K mg)  {cdv : Value} {A : Around} {outer : List Env} {s : Shared} {H : Hp} {E : XK} {AV : Av} {Ed : Value → Prop} {hE : ∀ {c dx H'}, ExtB [] H H' → Ed c → E c dx H'} (hr : Room 0 (A.deeper (envOfC "seen_at" (defScope s_seen_at) s.heap.objs.size fa cdv))) :
    ∃ t, DSs (cxOf (L2.CX P w) P w K mg base N_seen_at "seen_at" (defScope s_seen_at) fa cdv A outer s H E) (dx0 H AV E Ed hE) (defBody s_seen_at) t td_seen_at := ⟨_, (dss_one (ds_ret (DF.toDE (df_lc (own := [("sign", 3)]) rfl sc_seen_at.nd (di_str (de_step (de_var (pv 0)) (de_var (pv 2)) (de_var (pv 1)))) (blkOk_by (N := N_seen_at) (sc := defScope s_seen_at) (by decide +kernel)) (fun _ _ _ _ _ => (dg_name (i := 3) sc_seen_at.nd)) (fun _ _ _ _ _ => dts_one (dt_cmp (r := rNeA K) (op_neA hr) lr_ne (de_var (pv 3)) (de_gstr [63] g.v_UNSEEN) (nomark _))) (fun _ _ _ _ _ => (de_var (pv 3))) (by decide)))))⟩
theorem vc_seen_at {Ed : Value → Prop} (ds : List Dat) (Qd : Dat → Prop) (hl : ds.length = 3) (h : pd_seen_at ds Qd Ed) : td_seen_at { nx := fun _ _ => Qd .non, rt := fun d _ => Qd d } (startD N_seen_at ds) () := by
  obtain ⟨l, n, p, rfl, h1, h2, q⟩ := h
  simp [td_seen_at]
  refine ⟨by omega, Nat.le_trans (stepL_len l p n h1) (Nat.le_trans h2 (by decide)), lc_fm (fun d => match d with | .str [c] => decide (c ≠ 63) | _ => false) id (fun d hd C N h1 h2 => ?_) ?_⟩
  · obtain ⟨c, hc, rfl⟩ := List.mem_map.mp hd
    simp at h1 h2
    simpa using ⟨h1, h2⟩
  · unfold seenAt at q
    simpa [sgs, List.filter_map, Function.comp_def] using q
theorem seenAt_sub {l : List Nat} {n p c : Nat} (hn : 1 ≤ n) (h : c ∈ seenAt l n p) : c ∈ l := by
  unfold seenAt at h
  obtain ⟨j, e⟩ := (stepL_mem l p n c hn).mp (List.mem_filter.mp h).1
  exact List.mem_of_getElem? e
theorem signsAt_mem {l : List Nat} {n p : Nat} {x : List Nat} (h : x ∈ signsAt l n p) : ∃ c ∈ seenAt l n p, x = [c] := by
  unfold signsAt at h
  obtain ⟨c, hc, e⟩ := List.mem_map.mp ((usort_mem _).mp h)
  exact ⟨c, hc, e.symm⟩
theorem signsAt_ok {l : List Nat} {n p : Nat} (hn : 1 ≤ n) (ho : okS l) : ∀ x ∈ signsAt l n p, okS x := fun x hx => by
  obtain ⟨c, hc, rfl⟩ := signsAt_mem hx
  intro d hd
  rw [List.mem_singleton.mp hd]
  exact ho c (seenAt_sub hn hc)
abbrev s_rim_of : Stmt := topS 11
abbrev N_rim_of : List Str := ["seen", "length", "rim", "place", "signs"]
theorem sc_rim_of : FnScope N_rim_of ["seen", "length"] (defScope s_rim_of) := ⟨rfl, rfl, rfl, by decide +kernel, rfl, by decide +kernel, by decide +kernel⟩
def lp_rim_of_1 : TDS (Unit) := dSeq (dSet 4 (dFE (dSortSet (dCons (dCall 3 pd_seen_at noE (dCons (dVar 0) (dCons (dVar 1) (dCons (dVar 3) (dNil))))) (dNil))))) (dSeq (dIfS (dB (dOp dGt (dAp dLen (dCons (dVar 4) (dNil))) (dC (.int 1)))) (dRet (dC .non)) (dNext)) (dAug 2 (dIf (dB (dOp dNe (dVar 4) (dFE (dLstF (dNil))))) (dOp dIx (dVar 4) (dC (.int 0))) (dC (.str [63]))) dIAdd))
def td_rim_of : TDS (Unit) := dSeq (dSet 2 (dC (.str []))) (dSeq (dFor (diAp dRng1 (dCons (dVar 1) (dNil))) (gdName 3) (lp_rim_of_1)) (dRet (dVar 2)))
theorem tm_rim_of (g : GF K mg) (k_seen_at : Kn P w K mg base "seen_at" (spP K 3 pd_seen_at) 1) {cdv : Value} {A : Around} {outer : List Env} {s : Shared} {H : Hp} {E : XK} {AV : Av} {Ed : Value → Prop} {hE : ∀ {c dx H'}, ExtB [] H H' → Ed c → E c dx H'} (hr : Room 1 (A.deeper (envOfC "rim_of" (defScope s_rim_of) s.heap.objs.size fa cdv))) :
    ∃ t, DSs (cxOf (L2.CX P w) P w K mg base N_rim_of "rim_of" (defScope s_rim_of) fa cdv A outer s H E) (dx0 H AV E Ed hE) (defBody s_rim_of) t td_rim_of := ⟨_, (dss_cons (ds_set (i := 2) (de_str []) sc_rim_of.nd) (dss_cons (ds_for (passes_of rfl) rfl (di_rng1 g.n_range (da_cons (de_var (pv 1)) da_nil)) (dg_name (i := 3) sc_rim_of.nd) (dss_cons (ds_set (i := 4) (DF.toDE (df_sortSet rfl g.n_sorted g.n_set (da_cons (de_call k_seen_at hr passX0 eok_0 (da_cons (de_var (pv 0)) (da_cons (de_var (pv 1)) (da_cons (de_var (pv 3)) da_nil)))) da_nil))) sc_rim_of.nd) (dss_cons (ds_if (dt_cmp op_gtA lr_cmpI (de_callB call_len lc_len g.n_len (by rfl) (da_cons (de_var (pv 4)) da_nil)) de_int (nomark _)) (dss_one (ds_ret de_non)) dss_nil) (dss_one (ds_aug (i := 2) ip_addA lr_iadd (de_if (dt_cmp (op_neA hr) lr_ne (de_var (pv 4)) (DF.toDE (df_lst da_nil)) (nomark _)) (de_ix (de_var (pv 4)) de_int) (de_gstr [63] g.v_UNSEEN)) sc_rim_of.nd))))) (dss_one (ds_ret (de_var (pv 2))))))⟩
theorem rim_loop (l : List Nat) (n : Nat) (h1 : 1 ≤ n) (h3 : l.length ≤ 4000) (ho : okS l) (De : DEnds Unit) : ∀ (ps acc : List Nat) (x3 x4 : Sl), acc.length + ps.length ≤ 1000 →
    (∀ r x3 x4, rimOn (signsAt l n) ps acc = some r → De.nx [.dat (.str l), .dat (.int n), .dat (.str r), x3, x4] ()) → (rimOn (signsAt l n) ps acc = none → De.rt .non ()) →
    dForGo (gdName 3) lp_rim_of_1 De (ps.map fun k => Dat.int (k : Nat)) [.dat (.str l), .dat (.int n), .dat (.str acc), x3, x4] ()
  | [], acc, x3, x4, hb, q, _ => q acc x3 x4 rfl
  | p :: ps, acc, x3, x4, hb, q, q' => by
    have ih := rim_loop l n h1 h3 ho De ps
    simp only [List.map_cons, dForGo]
    simp [lp_rim_of_1, -dForGo]
    refine ⟨l, n, p, by simp, h1, h3, ?_⟩
    have hL : ((seenAt l n p).map fun c => [c]).length + 1 < 4096 := by
      unfold seenAt
      have h4 := List.length_filter_le (fun c => decide (c ≠ 63)) (stepL l (p : Nat) (n : Nat))
      have h5 := stepL_len l p n h1
      simp only [List.length_map]
      omega
    have e : usort ((seenAt l n p).map fun c => [c]) = signsAt l n p := rfl
    simp at hL
    simp [hL, e, -dForGo]
    have mem := fun x (hx : x ∈ signsAt l n p) => signsAt_mem hx
    have eok := eqok_strs (signsAt_ok (l := l) (n := n) (p := p) h1 ho)
    unfold rimOn at q q'
    have hb' : acc.length + (ps.length + 1) ≤ 1000 := by simpa using hb
    generalize signsAt l n p = Z at mem eok q q' ⊢
    match Z, mem, eok, q, q' with
    | [], mem, eok, q, q' =>
      simp [-dForGo]
      exact ⟨by show acc.length + 1 ≤ 16777216; omega, ih _ _ _ (by simp; omega) q q'⟩
    | [x], mem, eok, q, q' =>
      obtain ⟨c, hc, rfl⟩ := mem x (by simp)
      simp [-dForGo] at eok ⊢
      refine ⟨eok, by show acc.length + 1 ≤ 16777216; omega, ih _ _ _ (by simp; omega) q q'⟩
    | x :: y :: r, mem, eok, q, q' =>
      simp [-dForGo]
      refine ⟨fun _ => q' rfl, fun h => by omega⟩
theorem vc_rim_of {Ed : Value → Prop} (ds : List Dat) (Qd : Dat → Prop) (hl : ds.length = 2) (h : pd_rim_of ds Qd Ed) : td_rim_of { nx := fun _ _ => Qd .non, rt := fun d _ => Qd d } (startD N_rim_of ds) () := by
  obtain ⟨l, n, rfl, h1, h2, h3, ho, q⟩ := h
  simp [td_rim_of]
  refine ⟨by omega, rim_loop l n h1 h3 ho _ (List.range n) [] _ _ (by simp; omega) (fun r x3 x4 e => ?_) fun e => ?_⟩
  · have e : rimOf l n = some r := e
    rw [e] at q; exact q
  · have e : rimOf l n = none := e
    rw [e] at q; exact q
abbrev s_upper_rim : Stmt := topS 14
abbrev N_upper_rim : List Str := ["seen", "length", "rim", "place", "signs"]
theorem sc_upper_rim : FnScope N_upper_rim ["seen", "length"] (defScope s_upper_rim) := ⟨rfl, rfl, rfl, by decide +kernel, rfl, by decide +kernel, by decide +kernel⟩
def lp_upper_rim_1 : TDS (Unit) := dSeq (dSet 4 (dFE (dSortSet (dCons (dCall 3 pd_seen_at noE (dCons (dVar 0) (dCons (dVar 1) (dCons (dVar 3) (dNil))))) (dNil))))) (dIfS (dB (dOp dEq (dVar 4) (dFE (dLstF (dNil))))) (dAug 2 (dC (.str [63])) dIAdd) (dIfS (dB (dOp dEq (dAp dLen (dCons (dVar 4) (dNil))) (dC (.int 1)))) (dAug 2 (dOp dIx (dVar 4) (dC (.int 0))) dIAdd) (dAug 2 (dC (.str [46])) dIAdd)))
def td_upper_rim : TDS (Unit) := dSeq (dSet 2 (dC (.str []))) (dSeq (dFor (diAp dRng1 (dCons (dVar 1) (dNil))) (gdName 3) (lp_upper_rim_1)) (dRet (dVar 2)))
theorem tm_upper_rim (g : GF K mg) (k_seen_at : Kn P w K mg base "seen_at" (spP K 3 pd_seen_at) 1) {cdv : Value} {A : Around} {outer : List Env} {s : Shared} {H : Hp} {E : XK} {AV : Av} {Ed : Value → Prop} {hE : ∀ {c dx H'}, ExtB [] H H' → Ed c → E c dx H'} (hr : Room 1 (A.deeper (envOfC "upper_rim" (defScope s_upper_rim) s.heap.objs.size fa cdv))) :
    ∃ t, DSs (cxOf (L2.CX P w) P w K mg base N_upper_rim "upper_rim" (defScope s_upper_rim) fa cdv A outer s H E) (dx0 H AV E Ed hE) (defBody s_upper_rim) t td_upper_rim := ⟨_, (dss_cons (ds_set (i := 2) (de_str []) sc_upper_rim.nd) (dss_cons (ds_for (passes_of rfl) rfl (di_rng1 g.n_range (da_cons (de_var (pv 1)) da_nil)) (dg_name (i := 3) sc_upper_rim.nd) (dss_cons (ds_set (i := 4) (DF.toDE (df_sortSet rfl g.n_sorted g.n_set (da_cons (de_call k_seen_at hr passX0 eok_0 (da_cons (de_var (pv 0)) (da_cons (de_var (pv 1)) (da_cons (de_var (pv 3)) da_nil)))) da_nil))) sc_upper_rim.nd) (dss_one (ds_if (dt_cmp (op_eqA hr) lr_eq (de_var (pv 4)) (DF.toDE (df_lst da_nil)) (nomark _)) (dss_one (ds_aug (i := 2) ip_addA lr_iadd (de_gstr [63] g.v_UNSEEN) sc_upper_rim.nd)) (dss_one (ds_if (dt_cmp (op_eqA hr) lr_eq (de_callB call_len lc_len g.n_len (by rfl) (da_cons (de_var (pv 4)) da_nil)) de_int (nomark _)) (dss_one (ds_aug (i := 2) ip_addA lr_iadd (de_ix (de_var (pv 4)) de_int) sc_upper_rim.nd)) (dss_one (ds_aug (i := 2) ip_addA lr_iadd (de_gstr [46] g.v_NO_MARK) sc_upper_rim.nd)))))))) (dss_one (ds_ret (de_var (pv 2))))))⟩
theorem up_loop (l : List Nat) (n : Nat) (h1 : 1 ≤ n) (h3 : l.length ≤ 4000) (ho : okS l) (De : DEnds Unit) : ∀ (ps acc : List Nat) (x3 x4 : Sl), acc.length + ps.length ≤ 1000 →
    (∀ x3 x4, De.nx [.dat (.str l), .dat (.int n), .dat (.str (upOn (signsAt l n) ps acc)), x3, x4] ()) →
    dForGo (gdName 3) lp_upper_rim_1 De (ps.map fun k => Dat.int (k : Nat)) [.dat (.str l), .dat (.int n), .dat (.str acc), x3, x4] ()
  | [], acc, x3, x4, hb, q => q x3 x4
  | p :: ps, acc, x3, x4, hb, q => by
    have ih := up_loop l n h1 h3 ho De ps
    simp only [List.map_cons, dForGo]
    simp [lp_upper_rim_1, -dForGo]
    refine ⟨l, n, p, by simp, h1, h3, ?_⟩
    have hL : ((seenAt l n p).map fun c => [c]).length + 1 < 4096 := by
      unfold seenAt
      have h4 := List.length_filter_le (fun c => decide (c ≠ 63)) (stepL l (p : Nat) (n : Nat))
      have h5 := stepL_len l p n h1
      simp only [List.length_map]
      omega
    have e : usort ((seenAt l n p).map fun c => [c]) = signsAt l n p := rfl
    simp at hL
    simp [hL, e, -dForGo]
    have mem := fun x (hx : x ∈ signsAt l n p) => signsAt_mem hx
    have eok := eqok_strs (signsAt_ok (l := l) (n := n) (p := p) h1 ho)
    unfold upOn at q
    have hb' : acc.length + (ps.length + 1) ≤ 1000 := by simpa using hb
    generalize signsAt l n p = Z at mem eok q ⊢
    match Z, mem, eok, q with
    | [], mem, eok, q =>
      simp [-dForGo]
      exact ⟨by show acc.length + 1 ≤ 16777216; omega, ih _ _ _ (by simp; omega) q⟩
    | [x], mem, eok, q =>
      obtain ⟨c, hc, rfl⟩ := mem x (by simp)
      simp [-dForGo] at eok ⊢
      refine ⟨eok, by show acc.length + 1 ≤ 16777216; omega, ih _ _ _ (by simp; omega) q⟩
    | x :: y :: r, mem, eok, q =>
      simp [-dForGo] at eok ⊢
      refine ⟨eok, ?_, ?_⟩
      · intro; exfalso; omega
      · intro _
        exact ⟨by show acc.length + 1 ≤ 16777216; omega, ih _ _ _ (by simp; omega) q⟩
theorem vc_upper_rim {Ed : Value → Prop} (ds : List Dat) (Qd : Dat → Prop) (hl : ds.length = 2) (h : pd_upper_rim ds Qd Ed) : td_upper_rim { nx := fun _ _ => Qd .non, rt := fun d _ => Qd d } (startD N_upper_rim ds) () := by
  obtain ⟨l, n, rfl, h1, h2, h3, ho, q⟩ := h
  simp [td_upper_rim]
  exact ⟨by omega, up_loop l n h1 h3 ho _ (List.range n) [] _ _ (by simp; omega) fun x3 x4 => q⟩
abbrev s_left_beneath : Stmt := topS 15
abbrev N_left_beneath : List Str := ["seen", "rim", "signs", "place", "sign"]
theorem sc_left_beneath : FnScope N_left_beneath ["seen", "rim"] (defScope s_left_beneath) := ⟨rfl, rfl, rfl, by decide +kernel, rfl, by decide +kernel, by decide +kernel⟩
def td_left_beneath : TDS (Unit) := dSeq (dOwn 2 (dLc (diAp dEnumS (dCons (dVar 0) (dNil))) (gdTup 2 (gdCons (gdName 3) (gdCons (gdName 4) (gdNil)))) (dYes) (dIf (dB (dOp dEq (dOp dIx (dVar 1) (dOp dMod (dVar 3) (dAp dLen (dCons (dVar 1) (dNil))))) (dC (.str [46])))) (dVar 4) (dC (.str [63]))) [3, 4])) (dDemA 2 (dRet (dBM "str" dJoin (dC (.str [])) (dCons (dVar 2) (dNil)))))
theorem tm_left_beneath (g : GF K mg)  {cdv : Value} {A : Around} {outer : List Env} {s : Shared} {H : Hp} {E : XK} {AV : Av} {Ed : Value → Prop} {hE : ∀ {c dx H'}, ExtB [] H H' → Ed c → E c dx H'} (hr : Room 0 (A.deeper (envOfC "left_beneath" (defScope s_left_beneath) s.heap.objs.size fa cdv))) :
    ∃ t, DSs (cxOf (L2.CX P w) P w K mg base N_left_beneath "left_beneath" (defScope s_left_beneath) fa cdv A outer s H E) (dx0 H AV E Ed hE) (defBody s_left_beneath) t td_left_beneath := ⟨_, (dss_cons (ds_setLc (i := 2) (own := [("place", 3), ("sign", 4)]) rfl sc_left_beneath.nd (di_enumS g.n_enumerate (da_cons (de_var (pv 0)) da_nil)) (blkOk_by (N := N_left_beneath) (sc := defScope s_left_beneath) (by decide +kernel)) (fun _ _ _ _ _ => (show DG _ _ _ (gTup K 2 _) _ _ from (dg_tup (n := 2) rfl (dgs_cons (dg_name (i := 3) sc_left_beneath.nd) (dgs_cons (dg_name (i := 4) sc_left_beneath.nd) dgs_nil))))) (fun _ _ _ _ _ => dts_nil) (fun _ _ _ _ _ => (de_if (dt_cmp (r := rEqA K) (op_eqA hr) lr_eq (show DE _ _ _ (tOp (rIx K) _ _) _ from (de_ix (de_var (pv 1)) (de_op op_mod lr_mod (de_var (pv 3)) (de_callB (r := rLenA K) call_len lc_len g.n_len (by rfl) (da_cons (de_var (pv 1)) da_nil))))) (de_gstr [46] g.v_NO_MARK) (nomark _)) (de_var (pv 4)) (de_gstr [63] g.v_UNSEEN))) (by decide)) (dss_demA (i := 2) (dss_one (ds_ret (de_bm PySem.F.plainAttrs_str PySem.F.slot_str_join PySem.F.type_str_join mt_join lm_join (de_str []) (da_cons (de_var (pv 2)) da_nil))))))⟩
theorem vc_left_beneath {Ed : Value → Prop} (ds : List Dat) (Qd : Dat → Prop) (hl : ds.length = 2) (h : pd_left_beneath ds Qd Ed) : td_left_beneath { nx := fun _ _ => Qd .non, rt := fun d _ => Qd d } (startD N_left_beneath ds) () := by
  obtain ⟨l, r, rfl, hr, h2, h3, q⟩ := h
  simp [td_left_beneath]
  refine ⟨Nat.le_trans (by simp [enumD]; exact h3) (by decide : 4000 ≤ 16777216), ?_⟩
  have hr0 : 0 < r.length := List.length_pos_iff.mpr hr
  refine lc_fm (fun _ => true) (fun d => match d with
    | .tup [.int i, .str s] => .str (if r[i.toNat % r.length]? = some 46 then s else [63])
    | _ => .non) (fun d hd C N q1 q2 => ?_) ?_
  · obtain ⟨i, hi, rfl⟩ := enumS_mem hd
    have hm : i % r.length < r.length := Nat.mod_lt _ hr0
    have e1 : ((i : Int) % (r.length : Int)) = ((i % r.length : Nat) : Int) := by omega
    have e2 := List.getElem?_eq_getElem hm
    have e3 : atI r ((i : Int) % (r.length : Int)) = some r[i % r.length] := by rw [e1, atI_k, e2]
    have q1 := q1 rfl
    simp only [Int.toNat_natCast, e2, Option.some.injEq] at q1
    simp [e3]
    refine ⟨Nat.le_trans h2 (by decide : 4000 ≤ 16777216), hr0, Nat.le_trans h2 (by decide : 4000 ≤ 16777216), fun h => ?_, fun h => ?_⟩
    · rw [if_pos h] at q1; exact q1
    · rw [if_neg h] at q1; exact q1
  · have e : (List.filter (fun _ => true) (enumD (sgs l))).map (fun d => match d with
      | .tup [.int i, .str s] => Dat.str (if r[i.toNat % r.length]? = some 46 then s else [63])
      | _ => .non) = (beneath l r).map fun c => .str [c] := by
      rw [List.filter_eq_self.mpr (fun _ _ => rfl)]
      apply List.ext_getElem?
      intro i
      simp only [enumD, sgs, beneath, List.getElem?_map, List.getElem?_mapIdx]
      cases l[i]? with
      | none => rfl
      | some c =>
        simp
        split <;> rfl
    rw [List.nil_append, e]
    have e3 : (beneath l r).length ≤ 4000 := by simp [beneath]; exact h3
    simp [joinL_nil]
    exact ⟨by simp [tyD], Nat.le_trans e3 (by decide : 4000 ≤ 16777216), q⟩
def pd_two_rims : PD := fun ds Q _ => ∃ (l : List Nat) (n m : Nat), ds = [.str l, .int n, .int m] ∧ 1 ≤ n ∧ n ≤ 40 ∧ 1 ≤ m ∧ m ≤ 40 ∧ l.length ≤ 4000 ∧ okS l ∧ Q (match rimOf (beneath l (upperRim l m)) n with | none => .non | some r => .tup [.str r, .str (upperRim l m)])
def pd_two_for : PD := fun ds Q _ => ∃ (l : List Nat) (n m : Nat), ds = [.str l, .int n, .int m] ∧ l ≠ [] ∧ (∀ c ∈ l, c ∈ seenSigns) ∧ 1 ≤ n ∧ n ≤ 40 ∧ 1 ≤ m ∧ m ≤ 40 ∧ l.length ≤ 4000 ∧ Q (match rimOf (beneath l (upperRim l m)) n with | none => .non | some r => .tup [.str r, .str (upperRim l m)])
abbrev s_two_rims : Stmt := topS 16
abbrev N_two_rims : List Str := ["seen", "lower", "upper", "rim", "beneath_it"]
theorem sc_two_rims : FnScope N_two_rims ["seen", "lower", "upper"] (defScope s_two_rims) := ⟨rfl, rfl, rfl, by decide +kernel, rfl, by decide +kernel, by decide +kernel⟩
def td_two_rims : TDS (Unit) := dSeq (dSet 3 (dCall 2 pd_upper_rim noE (dCons (dVar 0) (dCons (dVar 2) (dNil))))) (dSeq (dSet 4 (dCall 2 pd_rim_of noE (dCons (dCall 2 pd_left_beneath noE (dCons (dVar 0) (dCons (dVar 3) (dNil)))) (dCons (dVar 1) (dNil))))) (dRet (dIf (dB (dOp dIsN (dVar 4) (dC .non))) (dC .non) (dTup (dCons (dVar 4) (dCons (dVar 3) (dNil)))))))
theorem tm_two_rims (g : GF K mg) (k_rim_of : Kn P w K mg base "rim_of" (spP K 2 pd_rim_of) 2) (k_upper_rim : Kn P w K mg base "upper_rim" (spP K 2 pd_upper_rim) 2) (k_left_beneath : Kn P w K mg base "left_beneath" (spP K 2 pd_left_beneath) 1) {cdv : Value} {A : Around} {outer : List Env} {s : Shared} {H : Hp} {E : XK} {AV : Av} {Ed : Value → Prop} {hE : ∀ {c dx H'}, ExtB [] H H' → Ed c → E c dx H'} (hr : Room 2 (A.deeper (envOfC "two_rims" (defScope s_two_rims) s.heap.objs.size fa cdv))) :
    ∃ t, DSs (cxOf (L2.CX P w) P w K mg base N_two_rims "two_rims" (defScope s_two_rims) fa cdv A outer s H E) (dx0 H AV E Ed hE) (defBody s_two_rims) t td_two_rims := ⟨_, (dss_cons (ds_set (i := 3) (de_call k_upper_rim hr passX0 eok_0 (da_cons (de_var (pv 0)) (da_cons (de_var (pv 2)) da_nil))) sc_two_rims.nd) (dss_cons (ds_set (i := 4) (de_call k_rim_of hr passX0 eok_0 (da_cons (de_call k_left_beneath hr passX0 eok_0 (da_cons (de_var (pv 0)) (da_cons (de_var (pv 3)) da_nil))) (da_cons (de_var (pv 1)) da_nil))) sc_two_rims.nd) (dss_one (ds_ret (de_if (dt_cmp op_isN lr_isN (de_var (pv 4)) de_non (nomark _)) de_non (de_tup (da_cons (de_var (pv 4)) (da_cons (de_var (pv 3)) da_nil))))))))⟩
theorem vc_two_rims {Ed : Value → Prop} (ds : List Dat) (Qd : Dat → Prop) (hl : ds.length = 3) (h : pd_two_rims ds Qd Ed) : td_two_rims { nx := fun _ _ => Qd .non, rt := fun d _ => Qd d } (startD N_two_rims ds) () := by
  obtain ⟨l, n, m, rfl, h1, h2, h3, h4, h5, ho, q⟩ := h
  simp [td_two_rims]
  have ul : (upperRim l m).length = m := by
    unfold upperRim
    rw [upOn_len _ fun p x hx => by obtain ⟨c, _, rfl⟩ := signsAt_mem hx; rfl]
    simp
  refine ⟨l, m, rfl, h3, h4, h5, ho, l, upperRim l m, rfl, fun z => by rw [z] at ul; simp at ul; omega, by omega, h5, beneath l (upperRim l m), n, rfl, h1, h2, by simpa [beneath] using h5, beneath_ok ho, ?_⟩
  cases e : rimOf (beneath l (upperRim l m)) n with
  | none => rw [e] at q; simp [optD, isNone]; exact q
  | some r => rw [e] at q; simp [optD, isNone]; exact ⟨by decide, q⟩
abbrev s_two_for : Stmt := topS 17
abbrev N_two_for : List Str := ["seen", "lower", "upper"]
theorem sc_two_for : FnScope N_two_for ["seen", "lower", "upper"] (defScope s_two_for) := ⟨rfl, rfl, rfl, by decide +kernel, rfl, by decide +kernel, by decide +kernel⟩
def td_two_for : TDS (Unit) := dSeq (dDrop (dCall 1 pd_need_seen noE (dCons (dVar 0) (dNil)))) (dSeq (dDrop (dCall 1 pd_need_length noE (dCons (dVar 1) (dNil)))) (dSeq (dDrop (dCall 1 pd_need_length noE (dCons (dVar 2) (dNil)))) (dRet (dCall 3 pd_two_rims noE (dCons (dVar 0) (dCons (dVar 1) (dCons (dVar 2) (dNil))))))))
theorem tm_two_for (g : GF K mg) (k_need_seen : Kn P w K mg base "need_seen" (spP K 1 pd_need_seen) 1) (k_need_length : Kn P w K mg base "need_length" (spP K 1 pd_need_length) 1) (k_two_rims : Kn P w K mg base "two_rims" (spP K 3 pd_two_rims) 3) {cdv : Value} {A : Around} {outer : List Env} {s : Shared} {H : Hp} {E : XK} {AV : Av} {Ed : Value → Prop} {hE : ∀ {c dx H'}, ExtB [] H H' → Ed c → E c dx H'} (hr : Room 3 (A.deeper (envOfC "two_for" (defScope s_two_for) s.heap.objs.size fa cdv))) :
    ∃ t, DSs (cxOf (L2.CX P w) P w K mg base N_two_for "two_for" (defScope s_two_for) fa cdv A outer s H E) (dx0 H AV E Ed hE) (defBody s_two_for) t td_two_for := ⟨_, (dss_cons (ds_expr (de_call k_need_seen hr passX0 eok_0 (da_cons (de_var (pv 0)) da_nil))) (dss_cons (ds_expr (de_call k_need_length hr passX0 eok_0 (da_cons (de_var (pv 1)) da_nil))) (dss_cons (ds_expr (de_call k_need_length hr passX0 eok_0 (da_cons (de_var (pv 2)) da_nil))) (dss_one (ds_ret (de_call k_two_rims hr passX0 eok_0 (da_cons (de_var (pv 0)) (da_cons (de_var (pv 1)) (da_cons (de_var (pv 2)) da_nil)))))))))⟩
theorem vc_two_for {Ed : Value → Prop} (ds : List Dat) (Qd : Dat → Prop) (hl : ds.length = 3) (h : pd_two_for ds Qd Ed) : td_two_for { nx := fun _ _ => Qd .non, rt := fun d _ => Qd d } (startD N_two_for ds) () := by
  obtain ⟨l, n, m, rfl, hne, hg, h1, h2, h3, h4, h5, q⟩ := h
  simp [td_two_for]
  refine ⟨l, rfl, hne, hg, Nat.le_trans h5 (by decide), n, rfl, by omega, by omega, m, rfl, by omega, by omega, l, n, m, rfl, h1, h2, h3, h4, h5, fun c hc => ?_, q⟩
  have hm : c ∈ seenSigns := hg c hc
  simp [seenSigns] at hm
  omega
def bigM : Int := 2305843009213693951
def pd__law_bag : PN := fun ds Q _ => ∃ ns : List Int, ds = [.sq ns] ∧ ns.length ≤ 1000 ∧ ∀ t, 0 ≤ t → t < bigM → Q [.lst (ns.map .int), .int 0, .int 0, .int 0, .int t]
abbrev s__law_bag : Stmt := topS 19
abbrev N__law_bag : List Str := ["script", "total", "cell"]
theorem sc__law_bag : FnScope N__law_bag ["script"] (defScope s__law_bag) := ⟨rfl, rfl, rfl, by decide +kernel, rfl, by decide +kernel, by decide +kernel⟩
def lp__law_bag_1 : TDS (Unit) := dSet 1 (dOp dMod (dOp dAdd (dOp dAdd (dOp dMul (dVar 1) (dC (.int 1000003))) (dOp dMod (dVar 2) (dC (.int 2305843009213693951)))) (dC (.int 1))) (dC (.int 2305843009213693951)))
def td__law_bag : TDS (Unit) := dSeq (dSet 1 (dC (.int 1))) (dSeq (dFor (diList (dVar 0)) (gdName 2) (lp__law_bag_1)) (dRetF (dLstF (dCons (dFE (dListOf (dCons (dVar 0) (dNil)))) (dCons (dC (.int 0)) (dCons (dC (.int 0)) (dCons (dC (.int 0)) (dCons (dVar 1) (dNil)))))))))
theorem tm__law_bag (g : GF K mg)  {cdv : Value} {A : Around} {outer : List Env} {s : Shared} {H : Hp} {E : XK} {AV : Av} {Ed : Value → Prop} {hE : ∀ {c dx H'}, ExtB [] H H' → Ed c → E c dx H'} (hr : Room 0 (A.deeper (envOfC "_law_bag" (defScope s__law_bag) s.heap.objs.size fa cdv))) :
    ∃ t, DSs (cxOf (L2.CX P w) P w K mg base N__law_bag "_law_bag" (defScope s__law_bag) fa cdv A outer s H E) (dx0 H AV E Ed hE) (defBody s__law_bag) t td__law_bag := ⟨_, (dss_cons (ds_set (i := 1) de_int sc__law_bag.nd) (dss_cons (ds_for (passes_of rfl) rfl (di_list (de_var (pv 0))) (dg_name (i := 2) sc__law_bag.nd) (dss_one (ds_set (i := 1) (de_op op_mod lr_mod (de_op op_addA lr_add (de_op op_addA lr_add (de_op op_mulA lr_mul (de_var (pv 1)) de_int) (de_op op_mod lr_mod (de_var (pv 2)) de_int)) de_int) de_int) sc__law_bag.nd))) (dss_one (ds_retF (df_lst (da_cons (DF.toDE (df_listOf g.n_list (da_cons (de_var (pv 0)) da_nil))) (da_cons de_int (da_cons de_int (da_cons de_int (da_cons (de_var (pv 1)) da_nil))))))))))⟩
theorem bag_loop (x0 : Dat) (De : DEnds Unit) : ∀ (ns : List Int) (t : Int) (x2 : Sl), 0 ≤ t → t < bigM → (∀ t x2, 0 ≤ t → t < bigM → De.nx [.dat x0, .dat (.int t), x2] ()) →
    dForGo (gdName 2) lp__law_bag_1 De (ns.map Dat.int) [.dat x0, .dat (.int t), x2] ()
  | [], t, x2, h1, h2, q => q t x2 h1 h2
  | c :: ns, t, x2, h1, h2, q => by
    simp only [List.map_cons, dForGo]
    simp [lp__law_bag_1, -dForGo]
    refine ⟨cm_r (by decide), ?_⟩
    have e : (0 : Int) < 2305843009213693951 := by decide
    have ih := bag_loop x0 De ns ((t * 1000003 + c % 2305843009213693951 + 1) % 2305843009213693951) (.dat (.int c)) (Int.emod_nonneg _ (by decide)) (Int.emod_lt_of_pos _ e) q
    simpa [lp__law_bag_1, -dForGo] using ih
theorem vc__law_bag {Ed : Value → Prop} (ds : List Dat) (Qd : List Dat → Prop) (hl : ds.length = 1) (h : pd__law_bag ds Qd Ed) : td__law_bag { nx := fun _ _ => False, rt := fun _ _ => False, rn := fun xs _ => Qd xs } (startD N__law_bag ds) () := by
  obtain ⟨ns, rfl, h1, q⟩ := h
  simp [td__law_bag]
  exact bag_loop (Dat.sq ns) _ ns 1 _ (by decide) (by decide) fun t x2 t1 t2 => by
    simp
    exact ⟨by decide, q t t1 t2⟩
def pd__law_stir : PD := fun ds Q _ => ∃ a p : Int, ds = [.int a, .int p] ∧ 0 ≤ a ∧ a < bigM ∧ 0 ≤ p ∧ p < 1099511627776 ∧ ∀ r, 0 ≤ r → Q (.int r)
abbrev s__law_stir : Stmt := topS 20
abbrev N__law_stir : List Str := ["number", "place", "one", "two"]
theorem sc__law_stir : FnScope N__law_stir ["number", "place"] (defScope s__law_stir) := ⟨rfl, rfl, rfl, by decide +kernel, rfl, by decide +kernel, by decide +kernel⟩
def td__law_stir : TDS (Unit) := dSeq (dSet 2 (dOp dMod (dOp dAdd (dOp dAdd (dOp dMul (dVar 0) (dC (.int 998244353))) (dOp dMul (dVar 1) (dC (.int 1000000007)))) (dC (.int 5))) (dC (.int 2305843009213693951)))) (dSeq (dSet 3 (dOp dMod (dOp dMul (dVar 2) (dVar 2)) (dC (.int 2305843009213693951)))) (dRet (dOp dFdiv (dOp dMod (dOp dAdd (dOp dAdd (dOp dMul (dVar 3) (dC (.int 2860486313))) (dOp dMul (dOp dMul (dVar 1) (dVar 1)) (dC (.int 48271)))) (dOp dFdiv (dVar 2) (dC (.int 3)))) (dC (.int 2305843009213693921))) (dC (.int 1024)))))
theorem tm__law_stir (g : GF K mg)  {cdv : Value} {A : Around} {outer : List Env} {s : Shared} {H : Hp} {E : XK} {AV : Av} {Ed : Value → Prop} {hE : ∀ {c dx H'}, ExtB [] H H' → Ed c → E c dx H'} (hr : Room 0 (A.deeper (envOfC "_law_stir" (defScope s__law_stir) s.heap.objs.size fa cdv))) :
    ∃ t, DSs (cxOf (L2.CX P w) P w K mg base N__law_stir "_law_stir" (defScope s__law_stir) fa cdv A outer s H E) (dx0 H AV E Ed hE) (defBody s__law_stir) t td__law_stir := ⟨_, (dss_cons (ds_set (i := 2) (de_op op_mod lr_mod (de_op op_addA lr_add (de_op op_addA lr_add (de_op op_mulA lr_mul (de_var (pv 0)) de_int) (de_op op_mulA lr_mul (de_var (pv 1)) de_int)) de_int) de_int) sc__law_stir.nd) (dss_cons (ds_set (i := 3) (de_op op_mod lr_mod (de_op op_mulA lr_mul (de_var (pv 2)) (de_var (pv 2))) de_int) sc__law_stir.nd) (dss_one (ds_ret (de_op op_fdivA lr_fdiv (de_op op_mod lr_mod (de_op op_addA lr_add (de_op op_addA lr_add (de_op op_mulA lr_mul (de_var (pv 3)) de_int) (de_op op_mulA lr_mul (de_op op_mulA lr_mul (de_var (pv 1)) (de_var (pv 1))) de_int)) (de_op op_fdivA lr_fdiv (de_var (pv 2)) de_int)) de_int) de_int)))))⟩
theorem vc__law_stir {Ed : Value → Prop} (ds : List Dat) (Qd : Dat → Prop) (hl : ds.length = 2) (h : pd__law_stir ds Qd Ed) : td__law_stir { nx := fun _ _ => Qd .non, rt := fun d _ => Qd d } (startD N__law_stir ds) () := by
  obtain ⟨a, p, rfl, h1, h2, h3, h4, q⟩ := h
  simp [td__law_stir]
  unfold bigM at h2
  refine ⟨cm_r (by decide), cm_r (by decide), cm_l ⟨?_, ?_⟩, cm_r (by decide), cm_r ⟨by omega, by omega⟩, cm_r (by decide), cd_r (by decide), cd_r (by decide), q _ (Int.ediv_nonneg (Int.emod_nonneg _ (by decide)) (by decide))⟩
  · have := Int.emod_nonneg (a * 998244353 + p * 1000000007 + 5) (b := 2305843009213693951) (by decide); omega
  · have := Int.emod_lt_of_pos (a * 998244353 + p * 1000000007 + 5) (b := 2305843009213693951) (by decide); omega
def BagOk (n : Int) (s : List Dat) : Prop := ∃ (cells : List Int) (at_ rest cnt t : Int), s = [.lst (cells.map .int), .int at_, .int rest, .int cnt, .int t] ∧ 0 ≤ at_ ∧ at_ ≤ cells.length ∧ 0 ≤ rest ∧ 0 ≤ cnt ∧ cnt ≤ n ∧ 0 ≤ t ∧ t < bigM ∧ cells.length ≤ 1000
def pd__law_draw : PV (List Dat) := fun b ds s Q _ => ∃ (many n : Int), ds = [.ref b, .int many] ∧ 1 ≤ many ∧ many < 1073741824 ∧ BagOk n s ∧ n < 1000000000000 ∧ ∀ r s', 0 ≤ r → r < many → BagOk (n + 1) s' → Q (.int r) s'
abbrev s__law_draw : Stmt := topS 21
abbrev N__law_draw : List Str := ["bag", "many", "found", "cell"]
theorem sc__law_draw : FnScope N__law_draw ["bag", "many"] (defScope s__law_draw) := ⟨rfl, rfl, rfl, by decide +kernel, rfl, by decide +kernel, by decide +kernel⟩
def td__law_draw (b : Addr) : TDS (List Dat) := dSeq (dIfS (dB (dOp dEq (dVar 1) (dC (.int 1)))) (dRet (dC (.int 0))) (dNext)) (dSeq (dBagSet 0 b (dOp dAdd (dBag b (dVar 0) (dC (.int 3))) (dC (.int 1))) (dC (.int 3))) (dSeq (dIfS (dAnd (dB (dOp dLt (dBag b (dVar 0) (dC (.int 2))) (dC (.int 2)))) (dB (dOp dEq (dBag b (dVar 0) (dC (.int 1))) (dAp dLen (dCons (dBag b (dVar 0) (dC (.int 0))) (dNil)))))) (dRet (dOp dMod (dCall 2 pd__law_stir noE (dCons (dBag b (dVar 0) (dC (.int 4))) (dCons (dBag b (dVar 0) (dC (.int 3))) (dNil)))) (dVar 1))) (dNext)) (dSeq (dIfS (dB (dOp dLt (dBag b (dVar 0) (dC (.int 2))) (dC (.int 2)))) (dSeq (dSet 3 (dOp dIx (dBag b (dVar 0) (dC (.int 0))) (dBag b (dVar 0) (dC (.int 1))))) (dSeq (dBagSet 0 b (dOp dAdd (dBag b (dVar 0) (dC (.int 1))) (dC (.int 1))) (dC (.int 1))) (dSeq (dIfS (dB (dOp dLt (dVar 3) (dOp dPow (dC (.int 10)) (dC (.int 18))))) (dRet (dOp dMod (dCall 2 pd__law_stir noE (dCons (dOp dMod (dVar 3) (dC (.int 2305843009213693951))) (dCons (dBag b (dVar 0) (dC (.int 3))) (dNil)))) (dVar 1))) (dNext)) (dBagSet 0 b (dOp dSub (dVar 3) (dOp dPow (dC (.int 10)) (dC (.int 18)))) (dC (.int 2)))))) (dNext)) (dSeq (dSet 2 (dOp dMod (dBag b (dVar 0) (dC (.int 2))) (dVar 1))) (dSeq (dBagSet 0 b (dOp dFdiv (dBag b (dVar 0) (dC (.int 2))) (dVar 1)) (dC (.int 2))) (dRet (dVar 2)))))))
theorem tm__law_draw (g : GF K mg) (k__law_stir : Kn P w K mg base "_law_stir" (spP K 2 pd__law_stir) 1) {cdv : Value} {A : Around} {outer : List Env} {s : Shared} {H : Hp} {E : XK} {AV : Av} {b : Addr} {Ed : Value → List Dat → Prop} {hE : ∀ {AV' c dx H' s'}, (∀ a, AV a → AV' a) → ExtB (CL K b).vs H H' → (CL K b).I AV' s' H' → Ed c s' → E c dx H'} (hr : Room 1 (A.deeper (envOfC "_law_draw" (defScope s__law_draw) s.heap.objs.size fa cdv))) :
    ∃ t, DSs (cxOf (L2.CX P w) P w K mg base N__law_draw "_law_draw" (defScope s__law_draw) fa cdv A outer s H E) (dxV (CL K b) H AV E Ed hE) (defBody s__law_draw) t (td__law_draw b) := ⟨_, (dss_cons (ds_if (dt_cmp (op_eqA hr) lr_eq (de_var (pv 1)) de_int (nomark _)) (dss_one (ds_ret de_int)) dss_nil) (dss_cons (ds_bagset (i := 0) rfl (de_op op_addA lr_add (de_bag rfl (de_var (pv 0)) de_int) de_int) (pv 0) de_int) (dss_cons (ds_if (DW.dt (dw_and (dt_cmp op_ltA lr_cmpI (de_bag rfl (de_var (pv 0)) de_int) de_int (nomark _)) (dw_and1 (dt_cmp (op_eqA hr) lr_eq (de_bag rfl (de_var (pv 0)) de_int) (de_callB call_len lc_len g.n_len (by rfl) (da_cons (de_bag rfl (de_var (pv 0)) de_int) da_nil)) (nomark _))))) (dss_one (ds_ret (de_op op_mod lr_mod (de_call k__law_stir hr passX0 eok_0 (da_cons (de_bag rfl (de_var (pv 0)) de_int) (da_cons (de_bag rfl (de_var (pv 0)) de_int) da_nil))) (de_var (pv 1))))) dss_nil) (dss_cons (ds_if (dt_cmp op_ltA lr_cmpI (de_bag rfl (de_var (pv 0)) de_int) de_int (nomark _)) (dss_cons (ds_set (i := 3) (de_ix (de_bag rfl (de_var (pv 0)) de_int) (de_bag rfl (de_var (pv 0)) de_int)) sc__law_draw.nd) (dss_cons (ds_bagset (i := 0) rfl (de_op op_addA lr_add (de_bag rfl (de_var (pv 0)) de_int) de_int) (pv 0) de_int) (dss_cons (ds_if (dt_cmp op_ltA lr_cmpI (de_var (pv 3)) (de_op op_pow lr_pow de_int de_int) (nomark _)) (dss_one (ds_ret (de_op op_mod lr_mod (de_call k__law_stir hr passX0 eok_0 (da_cons (de_op op_mod lr_mod (de_var (pv 3)) de_int) (da_cons (de_bag rfl (de_var (pv 0)) de_int) da_nil))) (de_var (pv 1))))) dss_nil) (dss_one (ds_bagset (i := 0) rfl (de_op op_sub lr_sub (de_var (pv 3)) (de_op op_pow lr_pow de_int de_int)) (pv 0) de_int))))) dss_nil) (dss_cons (ds_set (i := 2) (de_op op_mod lr_mod (de_bag rfl (de_var (pv 0)) de_int) (de_var (pv 1))) sc__law_draw.nd) (dss_cons (ds_bagset (i := 0) rfl (de_op op_fdivA lr_fdiv (de_bag rfl (de_var (pv 0)) de_int) (de_var (pv 1))) (pv 0) de_int) (dss_one (ds_ret (de_var (pv 2))))))))))⟩
theorem vc__law_draw {Ed : Value → List Dat → Prop} {b : Addr} (ds : List Dat) (s : List Dat) (Qd : Dat → List Dat → Prop) (hl : ds.length = 2) (h : pd__law_draw b ds s Qd Ed) : td__law_draw b { nx := fun _ s' => Qd .non s', rt := Qd } (startD N__law_draw ds) s := by
  obtain ⟨many, n, rfl, h1, h2, ⟨cells, at_, rest, cnt, t, rfl, a1, a2, a3, a4, a5, a6, a7, a8⟩, h3, q⟩ := h
  simp [td__law_draw, ixN]
  have mk : ∀ (at_ rest : Int), 0 ≤ at_ → at_ ≤ cells.length → 0 ≤ rest → BagOk (n + 1) [.lst (cells.map .int), .int at_, .int rest, .int (cnt + 1), .int t] := fun at_ rest b1 b2 b3 => ⟨cells, at_, rest, cnt + 1, t, rfl, b1, b2, b3, by omega, by omega, a6, a7, a8⟩
  have m0 : 0 < many := by omega
  have md : ∀ r : Int, 0 ≤ r % many ∧ r % many < many := fun r => ⟨Int.emod_nonneg _ (by omega), Int.emod_lt_of_pos _ m0⟩
  have e0 : (0 : Int) < bigM := by decide
  refine ⟨fun h => q 0 _ (by omega) (by omega) ⟨cells, at_, rest, cnt, t, rfl, a1, a2, a3, a4, by omega, a6, a7, a8⟩, fun hm => ⟨fun hr => ⟨fun he => ?_, fun hne => ⟨fun _ => ?_, fun h => by omega⟩⟩, fun h2 => ⟨fun h => by omega, fun _ => ?_⟩⟩⟩
  · exact ⟨t, cnt + 1, rfl, a6, a7, by omega, by omega, fun r hr => ⟨m0, q _ _ (md r).1 (md r).2 (mk at_ rest a1 a2 a3)⟩⟩
  · obtain ⟨k, rfl⟩ := Int.eq_ofNat_of_zero_le a1
    have hk : k < cells.length := by omega
    refine ⟨.int cells[k], by simp [hk], by unfold CPow; decide, ?_⟩
    simp
    refine ⟨fun _ => ?_, fun hc => ⟨by unfold CPow; decide, m0, cd_r ⟨m0, h2⟩, ?_⟩⟩
    · exact ⟨_, cnt + 1, rfl, Int.emod_nonneg _ (by decide), Int.emod_lt_of_pos _ e0, by omega, by omega, fun r hr => ⟨m0, q _ _ (md r).1 (md r).2 (mk _ rest (by omega) (by omega) a3)⟩⟩
    · exact q _ _ (md _).1 (md _).2 (mk _ _ (by omega) (by omega) (Int.ediv_nonneg (by omega) (by omega)))
  · exact ⟨m0, cd_r ⟨m0, by omega⟩, q _ _ (md _).1 (md _).2 (mk _ _ a1 a2 (Int.ediv_nonneg a3 (by omega)))⟩
def longer (signs : List Nat) (F : List (List Nat)) : List (List Nat) := F.flatMap fun r => signs.map fun c => r ++ [c]
def rimsN (signs : List Nat) : Nat → List (List Nat) → List (List Nat)
  | 0, F => F
  | n + 1, F => rimsN signs n (longer signs F)
def pd__law_rims : PD := fun ds Q _ => ∃ (n : Nat), ds = [.int n, .str [97, 98, 46]] ∧ n ≤ 3 ∧ Q (.lst ((rimsN [97, 98, 46] n [[]]).map .str))
abbrev s__law_rims : Stmt := topS 22
abbrev N__law_rims : List Str := ["size", "signs", "found", "k", "longer", "rim", "sign"]
theorem sc__law_rims : FnScope N__law_rims ["size", "signs"] (defScope s__law_rims) := ⟨rfl, rfl, rfl, by decide +kernel, rfl, by decide +kernel, by decide +kernel⟩
def lp__law_rims_1 : TDS (Unit) := dExtend 4 (dFE (dLc (diStr (dVar 1)) (gdName 6) (dYes) (dOp dAdd (dVar 5) (dVar 6)) [6]))
def lp__law_rims_2 : TDS (Unit) := dSeq (dOwn 4 (dLstF (dNil))) (dSeq (dFor (diList (dVar 2)) (gdName 5) (lp__law_rims_1)) (dDemA 4 (dSet 2 (dVar 4))))
def td__law_rims : TDS (Unit) := dSeq (dSet 2 (dFE (dLstF (dCons (dC (.str [])) (dNil))))) (dSeq (dFor (diAp dRng1 (dCons (dVar 0) (dNil))) (gdName 3) (lp__law_rims_2)) (dRet (dVar 2)))
theorem tm__law_rims (g : GF K mg)  {cdv : Value} {A : Around} {outer : List Env} {s : Shared} {H : Hp} {E : XK} {AV : Av} {Ed : Value → Prop} {hE : ∀ {c dx H'}, ExtB [] H H' → Ed c → E c dx H'} (hr : Room 0 (A.deeper (envOfC "_law_rims" (defScope s__law_rims) s.heap.objs.size fa cdv))) :
    ∃ t, DSs (cxOf (L2.CX P w) P w K mg base N__law_rims "_law_rims" (defScope s__law_rims) fa cdv A outer s H E) (dx0 H AV E Ed hE) (defBody s__law_rims) t td__law_rims := ⟨_, (dss_cons (ds_set (i := 2) (DF.toDE (df_lst (da_cons (de_str []) da_nil))) sc__law_rims.nd) (dss_cons (ds_for (passes_of rfl) rfl (di_rng1 g.n_range (da_cons (de_var (pv 0)) da_nil)) (dg_name (i := 3) sc__law_rims.nd) (dss_cons (ds_own (i := 4) (df_lst da_nil) sc__law_rims.nd) (dss_cons (ds_for (passes_of rfl) rfl (di_list (de_var (pv 2))) (dg_name (i := 5) sc__law_rims.nd) (dss_one (ds_extend (i := 4) (DF.toDE (df_lc (own := [("sign", 6)]) rfl sc__law_rims.nd (di_str (de_var (pv 1))) (blkOk_by (N := N__law_rims) (sc := defScope s__law_rims) (by decide +kernel)) (fun _ _ _ _ _ => (dg_name (i := 6) sc__law_rims.nd)) (fun _ _ _ _ _ => dts_nil) (fun _ _ _ _ _ => (de_op (r := rAddA K) op_addA lr_add (de_var (pv 5)) (de_var (pv 6)))) (by decide))) (pv 4)))) (dss_demA (i := 4) (dss_one (ds_set (i := 2) (de_var (pv 4)) sc__law_rims.nd)))))) (dss_one (ds_ret (de_var (pv 2))))))⟩
theorem rims_in (De : DEnds Unit) (x0 x2 x3 : Sl) : ∀ (F : List (List Nat)) (acc : List (List Nat)) (x5 x6 : Sl), (∀ r ∈ F, r.length ≤ 100) → acc.length + 3 * F.length ≤ 10000 →
    (∀ x5 x6, De.nx [x0, .dat (.str [97, 98, 46]), x2, x3, .own ((acc ++ longer [97, 98, 46] F).map .str), x5, x6] ()) →
    dForGo (gdName 5) lp__law_rims_1 De (F.map .str) [x0, .dat (.str [97, 98, 46]), x2, x3, .own (acc.map .str), x5, x6] ()
  | [], acc, x5, x6, h1, h2, q => by simpa [longer] using q x5 x6
  | r :: F, acc, x5, x6, h1, h2, q => by
    have ih := rims_in De x0 x2 x3 F (acc ++ [r ++ [97], r ++ [98], r ++ [46]])
    simp only [List.map_cons, dForGo]
    simp [lp__law_rims_1, -dForGo, sgs]
    have hr := h1 r (by simp)
    have hb : r.length + 1 ≤ big := by show r.length + 1 ≤ 16777216; omega
    simp at h2
    refine ⟨by decide, hb, by show acc.length + 3 ≤ 16777216; omega, ?_⟩
    have := ih (.dat (.str r)) x6 (fun r hr => h1 r (List.mem_cons_of_mem _ hr)) (by simp; omega) (by simpa [longer] using q)
    simpa [lp__law_rims_1, -dForGo, sgs] using this
theorem longer_len (F : List (List Nat)) : (longer [97, 98, 46] F).length = 3 * F.length := by
  unfold longer
  induction F with
  | nil => rfl
  | cons r F ih => simp [List.flatMap_cons] at ih ⊢; omega
theorem longer_le {F : List (List Nat)} {m : Nat} (h : ∀ r ∈ F, r.length ≤ m) : ∀ r ∈ longer [97, 98, 46] F, r.length ≤ m + 1 := fun r hr => by
  obtain ⟨r0, h0, h1⟩ := List.mem_flatMap.mp hr
  obtain ⟨c, _, rfl⟩ := List.mem_map.mp h1
  have := h r0 h0
  simp; omega
theorem rims_out (De : DEnds Unit) (x0 : Sl) : ∀ (ps : List Nat) (F : List (List Nat)) (x3 x4 x5 x6 : Sl), (∀ r ∈ F, r.length ≤ 3 - ps.length) → ps.length ≤ 3 → F.length * 3 ^ ps.length ≤ 27 →
    (∀ x3 x4 x5 x6, De.nx [x0, .dat (.str [97, 98, 46]), .dat (.lst ((rimsN [97, 98, 46] ps.length F).map .str)), x3, x4, x5, x6] ()) →
    dForGo (gdName 3) lp__law_rims_2 De (ps.map fun k => Dat.int (k : Nat)) [x0, .dat (.str [97, 98, 46]), .dat (.lst (F.map .str)), x3, x4, x5, x6] ()
  | [], F, x3, x4, x5, x6, h1, h2, h3, q => q x3 x4 x5 x6
  | p :: ps, F, x3, x4, x5, x6, h1, h2, h3, q => by
    have ih := rims_out De x0 ps (longer [97, 98, 46] F)
    simp only [List.map_cons, dForGo]
    simp [lp__law_rims_2, -dForGo]
    simp at h2 h1
    have h3' : F.length * 3 ^ ps.length * 3 ≤ 27 := by rw [List.length_cons, Nat.pow_succ, ← Nat.mul_assoc] at h3; exact h3
    have h4 : F.length ≤ F.length * 3 ^ ps.length := Nat.le_mul_of_pos_right _ (Nat.pos_of_ne_zero (by simp))
    refine rims_in _ x0 _ _ F [] _ _ (fun r hr => by have := h1 r hr; omega) (by simp; omega) fun x5 x6 => ?_
    simp [-dForGo]
    refine ih _ _ _ _ (fun r hr => ?_) (by omega) (by rw [longer_len, Nat.mul_comm 3, Nat.mul_right_comm]; exact h3') q
    have := longer_le (m := 3 - (ps.length + 1)) (fun r hr => by have := h1 r hr; omega) r hr
    omega
theorem vc__law_rims {Ed : Value → Prop} (ds : List Dat) (Qd : Dat → Prop) (hl : ds.length = 2) (h : pd__law_rims ds Qd Ed) : td__law_rims { nx := fun _ _ => Qd .non, rt := fun d _ => Qd d } (startD N__law_rims ds) () := by
  obtain ⟨n, rfl, h1, q⟩ := h
  simp [td__law_rims]
  refine ⟨by decide, by omega, ?_⟩
  have h3 : 3 ^ n ≤ 3 ^ 3 := Nat.pow_le_pow_right (by decide) h1
  have := rims_out { nx := dRet (dVar 2) { nx := fun x x_1 => Qd Dat.non, rt := fun d x => Qd d }, rt := fun d x => Qd d } (.dat (.int n)) (List.range n) [[]] .no .no .no .no (by simp) (by simpa using h1) (by simpa using h3) (fun _ _ _ _ => by simpa using q)
  simpa using this
def markAt (lo up : List Nat) (i : Nat) : Nat := if up.getD (i % up.length) 0 = 46 then lo.getD (i % lo.length) 0 else up.getD (i % up.length) 0
def okAt (l lo up : List Nat) (i : Nat) : Prop := l.getD i 0 = markAt lo up i ∨ l.getD i 0 = 63
instance {l lo up : List Nat} {i : Nat} : Decidable (okAt l lo up i) := by unfold okAt; infer_instance
def prints (l lo up : List Nat) : Prop := ∀ i, i < l.length → okAt l lo up i
def pd__law_prints : PD := fun ds Q _ => ∃ (l lo up : List Nat), ds = [.str l, .str lo, .str up] ∧ lo ≠ [] ∧ up ≠ [] ∧ lo.length ≤ 1000 ∧ up.length ≤ 1000 ∧ (prints l lo up → Q (.bl true)) ∧ (¬ prints l lo up → Q (.bl false))
abbrev s__law_prints : Stmt := topS 23
abbrev N__law_prints : List Str := ["seen", "lower", "upper", "place", "sign", "mark"]
theorem sc__law_prints : FnScope N__law_prints ["seen", "lower", "upper"] (defScope s__law_prints) := ⟨rfl, rfl, rfl, by decide +kernel, rfl, by decide +kernel, by decide +kernel⟩
def lp__law_prints_1 : TDS (Unit) := dSeq (dSet 5 (dOp dIx (dVar 2) (dOp dMod (dVar 3) (dAp dLen (dCons (dVar 2) (dNil)))))) (dSeq (dSet 5 (dIf (dB (dOp dEq (dVar 5) (dC (.str [46])))) (dOp dIx (dVar 1) (dOp dMod (dVar 3) (dAp dLen (dCons (dVar 1) (dNil))))) (dVar 5))) (dIfS (dB (dOp dNotIn (dVar 4) (dTup (dCons (dVar 5) (dCons (dC (.str [63])) (dNil)))))) (dRet (dC (.bl false))) (dNext)))
def td__law_prints : TDS (Unit) := dSeq (dFor (diAp dEnumS (dCons (dVar 0) (dNil))) (gdTup 2 (gdCons (gdName 3) (gdCons (gdName 4) (gdNil)))) (lp__law_prints_1)) (dRet (dC (.bl true)))
theorem tm__law_prints (g : GF K mg)  {cdv : Value} {A : Around} {outer : List Env} {s : Shared} {H : Hp} {E : XK} {AV : Av} {Ed : Value → Prop} {hE : ∀ {c dx H'}, ExtB [] H H' → Ed c → E c dx H'} (hr : Room 0 (A.deeper (envOfC "_law_prints" (defScope s__law_prints) s.heap.objs.size fa cdv))) :
    ∃ t, DSs (cxOf (L2.CX P w) P w K mg base N__law_prints "_law_prints" (defScope s__law_prints) fa cdv A outer s H E) (dx0 H AV E Ed hE) (defBody s__law_prints) t td__law_prints := ⟨_, (dss_cons (ds_for (passes_of rfl) rfl (di_enumS g.n_enumerate (da_cons (de_var (pv 0)) da_nil)) (dg_tup (n := 2) rfl (dgs_cons (dg_name (i := 3) sc__law_prints.nd) (dgs_cons (dg_name (i := 4) sc__law_prints.nd) dgs_nil))) (dss_cons (ds_set (i := 5) (de_ix (de_var (pv 2)) (de_op op_mod lr_mod (de_var (pv 3)) (de_callB call_len lc_len g.n_len (by rfl) (da_cons (de_var (pv 2)) da_nil)))) sc__law_prints.nd) (dss_cons (ds_set (i := 5) (de_if (dt_cmp (op_eqA hr) lr_eq (de_var (pv 5)) (de_str [46]) (nomark _)) (de_ix (de_var (pv 1)) (de_op op_mod lr_mod (de_var (pv 3)) (de_callB call_len lc_len g.n_len (by rfl) (da_cons (de_var (pv 1)) da_nil)))) (de_var (pv 5))) sc__law_prints.nd) (dss_one (ds_if (dt_cmp op_notInA lr_notIn (de_var (pv 4)) (de_tup (da_cons (de_var (pv 5)) (da_cons (de_str [63]) da_nil))) (by with_unfolding_all rfl)) (dss_one (ds_ret de_bl)) dss_nil))))) (dss_one (ds_ret de_bl)))⟩
theorem vc__law_prints {Ed : Value → Prop} (ds : List Dat) (Qd : Dat → Prop) (hl : ds.length = 3) (h : pd__law_prints ds Qd Ed) : td__law_prints { nx := fun _ _ => Qd .non, rt := fun d _ => Qd d } (startD N__law_prints ds) () := by
  obtain ⟨l, lo, up, rfl, h1, h2, h3, h4, q, q'⟩ := h
  simp [td__law_prints]
  have hlo : 0 < lo.length := List.length_pos_iff.mpr h1
  have hup : 0 < up.length := List.length_pos_iff.mpr h2
  refine for_inv (fun i ρ _ => ∃ x3 x4 x5, ρ = [.dat (.str l), .dat (.str lo), .dat (.str up), x3, x4, x5] ∧ ∀ j, j < i → okAt l lo up j) ⟨_, _, _, rfl, fun j hj => by omega⟩ (fun i d ρ s hd hI N hN => ?_) fun ρ s hI => ?_
  · obtain ⟨x3, x4, x5, rfl, hI⟩ := hI
    have hi : i < l.length := by have := (List.getElem?_eq_some_iff.mp hd).1; simpa [enumD] using this
    have ed : d = .tup [.int (i : Nat), .str [l[i]]] := by
      simp only [enumD, sgs, List.getElem?_mapIdx, List.getElem?_map, List.getElem?_eq_getElem hi] at hd
      simpa using hd.symm
    subst ed
    have m1 : i % up.length < up.length := Nat.mod_lt _ hup
    have m2 : i % lo.length < lo.length := Nat.mod_lt _ hlo
    have e1 : atI up ((i : Int) % (up.length : Int)) = some up[i % up.length] := by
      have : ((i : Int) % (up.length : Int)) = ((i % up.length : Nat) : Int) := by omega
      rw [this, atI_k, List.getElem?_eq_getElem m1]
    have e2 : atI lo ((i : Int) % (lo.length : Int)) = some lo[i % lo.length] := by
      have : ((i : Int) % (lo.length : Int)) = ((i % lo.length : Nat) : Int) := by omega
      rw [this, atI_k, List.getElem?_eq_getElem m2]
    have b1 : up.length ≤ big := Nat.le_trans h4 (by decide)
    have b2 : lo.length ≤ big := Nat.le_trans h3 (by decide)
    have mk : markAt lo up i = if up[i % up.length] = 46 then lo[i % lo.length] else up[i % up.length] := by simp [markAt, List.getD_eq_getElem?_getD, m1, m2]
    have lg : l.getD i 0 = l[i] := by simp [List.getD_eq_getElem?_getD, hi]
    have nxt : okAt l lo up i → ∀ x3 x4 x5, N [.dat (.str l), .dat (.str lo), .dat (.str up), x3, x4, x5] s := fun h x3 x4 x5 => hN _ _ ⟨x3, x4, x5, rfl, fun j hj => by
      by_cases e : j = i
      · rw [e]; exact h
      · exact hI j (by omega)⟩
    have bad : ¬ okAt l lo up i → Qd (.bl false) := fun h => q' fun p => h (p i hi)
    simp [lp__law_prints_1, e1, e2, b1, b2, hup, hlo]
    unfold okAt at nxt bad
    rw [lg, mk] at nxt bad
    by_cases c : up[i % up.length] = 46
    · simp [c] at nxt bad ⊢
      exact ⟨by decide, fun h1 h2 => bad (fun z => h1 z.symm) fun z => h2 z.symm, fun h => nxt (h.imp Eq.symm Eq.symm) _ _ _⟩
    · simp [c] at nxt bad ⊢
      exact ⟨by decide, fun h1 h2 => bad (fun z => h1 z.symm) fun z => h2 z.symm, fun h => nxt (h.imp Eq.symm Eq.symm) _ _ _⟩
  · obtain ⟨x3, x4, x5, rfl, hI⟩ := hI
    simp
    exact q fun i hi => hI i (by simpa [enumD] using hi)
/-! ### the plain law -/
def gAt (f : Nat → List (List Nat)) (p : Nat) : Nat := match f p with
  | [] => 63
  | [x] => x.headD 0
  | _ => 46
def One (f : Nat → List (List Nat)) : Prop := ∀ p x, x ∈ f p → ∃ c, x = [c]
theorem upOn_is {f : Nat → List (List Nat)} (h : One f) : ∀ ps acc, upOn f ps acc = acc ++ ps.map (gAt f)
  | [], acc => by simp [upOn]
  | p :: ps, acc => by
    unfold upOn
    rw [upOn_is h ps, List.map_cons, List.append_assoc]
    congr 1
    unfold gAt
    have h1 := h p
    generalize f p = Z at h1
    match Z, h1 with
    | [], _ => rfl
    | [x], h1 => obtain ⟨c, rfl⟩ := h1 x (by simp); rfl
    | _ :: _ :: _, _ => rfl
theorem rimOn_some {f : Nat → List (List Nat)} (h : One f) : ∀ {ps acc r}, rimOn f ps acc = some r → r = acc ++ ps.map (gAt f) ∧ ∀ p ∈ ps, (f p).length ≤ 1
  | [], acc, r, e => by unfold rimOn at e; cases e; simp
  | p :: ps, acc, r, e => by
    unfold rimOn at e
    have h1 := h p
    have hg : gAt f p = match f p with | [] => 63 | [x] => x.headD 0 | _ => 46 := rfl
    generalize hZ : f p = Z at h1 e hg
    match Z, h1, e, hg with
    | [], _, e, hg =>
      obtain ⟨a, b⟩ := rimOn_some h e
      refine ⟨by rw [a]; simp [hg], fun q hq => ?_⟩
      rcases List.mem_cons.mp hq with z | z
      · rw [z, hZ]; simp
      · exact b q z
    | [x], h1, e, hg =>
      obtain ⟨c, rfl⟩ := h1 x (by simp)
      obtain ⟨a, b⟩ := rimOn_some h e
      refine ⟨by rw [a]; simp [hg], fun q hq => ?_⟩
      rcases List.mem_cons.mp hq with z | z
      · rw [z, hZ]; simp
      · exact b q z
    | _ :: _ :: _, _, e, _ => cases e
theorem rimOn_none {f : Nat → List (List Nat)} (h : One f) : ∀ {ps acc}, rimOn f ps acc = none → ∃ p ∈ ps, 2 ≤ (f p).length
  | [], acc, e => by unfold rimOn at e; cases e
  | p :: ps, acc, e => by
    unfold rimOn at e
    have h1 := h p
    generalize hZ : f p = Z at h1 e
    match Z, h1, e with
    | [], _, e => obtain ⟨q, a, b⟩ := rimOn_none h e; exact ⟨q, List.mem_cons_of_mem _ a, b⟩
    | [x], _, e => obtain ⟨q, a, b⟩ := rimOn_none h e; exact ⟨q, List.mem_cons_of_mem _ a, b⟩
    | _ :: _ :: _, _, _ => exact ⟨p, by simp, by rw [hZ]; simp⟩
theorem one_signs (l : List Nat) (n : Nat) : One (signsAt l n) := fun p x hx => let ⟨c, _, e⟩ := signsAt_mem hx; ⟨c, e⟩
theorem sg_iff {l : List Nat} {n p c : Nat} (hp : p < n) : [c] ∈ signsAt l n p ↔ c ≠ 63 ∧ ∃ i, l[i]? = some c ∧ i % n = p := by
  unfold signsAt
  rw [usort_mem, List.mem_map]
  constructor
  · rintro ⟨d, hd, e⟩
    obtain rfl : d = c := (List.cons.inj e).1
    unfold seenAt at hd
    obtain ⟨h1, h2⟩ := List.mem_filter.mp hd
    exact ⟨of_decide_eq_true h2, (stepL_mod l p n d hp).mp h1⟩
  · rintro ⟨h1, h2⟩
    exact ⟨c, List.mem_filter.mpr ⟨(stepL_mod l p n c hp).mpr h2, decide_eq_true h1⟩, rfl⟩
theorem sg_nodup (l : List Nat) (n p : Nat) : (signsAt l n p).Pairwise (· < ·) := usort_sorted _
/-- all signs at p are d -/
theorem g_of_all {l : List Nat} {n p d : Nat} (h : ∀ c, [c] ∈ signsAt l n p → c = d) : (signsAt l n p = [] ∧ gAt (signsAt l n) p = 63) ∨ (signsAt l n p = [[d]] ∧ gAt (signsAt l n) p = d) := by
  have h1 := one_signs l n p
  have h2 := sg_nodup l n p
  have hg : gAt (signsAt l n) p = match signsAt l n p with | [] => 63 | [x] => x.headD 0 | _ => 46 := rfl
  generalize signsAt l n p = Z at h h1 h2 hg
  match Z, h, h1, h2, hg with
  | [], _, _, _, hg => exact .inl ⟨rfl, hg⟩
  | [x], h, h1, _, hg =>
    obtain ⟨c, rfl⟩ := h1 x (by simp)
    obtain rfl := h c (by simp)
    exact .inr ⟨rfl, hg⟩
  | x :: y :: r, h, h1, h2, _ =>
    obtain ⟨c, rfl⟩ := h1 x (by simp)
    obtain ⟨e, rfl⟩ := h1 y (by simp)
    have a1 := h c (by simp)
    have a2 := h e (by simp)
    have := (List.pairwise_cons.mp h2).1 [e] (by simp)
    rw [a1, a2] at this
    exact absurd this (ltL_irrefl _)
theorem two_signs {l : List Nat} {n p : Nat} (h : 2 ≤ (signsAt l n p).length) : ∃ c d, c ≠ d ∧ [c] ∈ signsAt l n p ∧ [d] ∈ signsAt l n p := by
  have h1 := one_signs l n p
  have h2 := sg_nodup l n p
  generalize signsAt l n p = Z at h h1 h2
  match Z, h, h1, h2 with
  | x :: y :: r, _, h1, h2 =>
    obtain ⟨c, rfl⟩ := h1 x (by simp)
    obtain ⟨e, rfl⟩ := h1 y (by simp)
    refine ⟨c, e, fun z => ?_, by simp, by simp⟩
    have := (List.pairwise_cons.mp h2).1 [e] (by simp)
    rw [z] at this
    exact ltL_irrefl _ this
theorem g_one {l : List Nat} {n p c : Nat} (h : (signsAt l n p).length ≤ 1) (hc : [c] ∈ signsAt l n p) : gAt (signsAt l n) p = c := by
  have hg : gAt (signsAt l n) p = match signsAt l n p with | [] => 63 | [x] => x.headD 0 | _ => 46 := rfl
  generalize signsAt l n p = Z at h hc hg
  match Z, h, hc, hg with
  | [x], _, hc, hg =>
    obtain rfl : [c] = x := by simpa using hc
    exact hg
theorem g_two {l : List Nat} {n p : Nat} (h : ¬ (signsAt l n p).length ≤ 1) : gAt (signsAt l n) p = 46 := by
  have hg : gAt (signsAt l n) p = match signsAt l n p with | [] => 63 | [x] => x.headD 0 | _ => 46 := rfl
  generalize signsAt l n p = Z at h hg
  match Z, h, hg with
  | [], h, _ => simp at h
  | [_], h, _ => simp at h
  | _ :: _ :: _, _, hg => exact hg
theorem upper_is (l : List Nat) (m : Nat) : upperRim l m = (List.range m).map (gAt (signsAt l m)) := by
  unfold upperRim
  rw [upOn_is (one_signs l m)]
  rfl
theorem upper_get {l : List Nat} {m p : Nat} (hp : p < m) : (upperRim l m)[p]? = some (gAt (signsAt l m) p) := by
  rw [upper_is]; simp [hp]
theorem upper_len (l : List Nat) (m : Nat) : (upperRim l m).length = m := by rw [upper_is]; simp
theorem ben_get {l u : List Nat} {i c : Nat} (h : l[i]? = some c) : (beneath l u)[i]? = some (if u[i % u.length]? = some 46 then c else 63) := by
  unfold beneath
  rw [List.getElem?_mapIdx, h]
  rfl
/-- in the terms of prints -/
theorem prints_at {l lo up : List Nat} (h : prints l lo up) {i c : Nat} (hi : l[i]? = some c) (hc : c ≠ 63) : c = markAt lo up i := by
  obtain ⟨hl, e⟩ := List.getElem?_eq_some_iff.mp hi
  have e2 : l.getD i 0 = c := by rw [List.getD_eq_getElem?_getD, hi]; rfl
  rcases h i hl with z | z
  · rw [e2] at z; exact z
  · rw [e2] at z; exact absurd z hc
theorem up_of {l lo up : List Nat} {m p : Nat} (h : prints l lo up) (hm : up.length = m) (hp : p < m) (hd : up.getD p 0 ≠ 46) : ∀ c, [c] ∈ signsAt l m p → c = up.getD p 0 := fun c hc => by
  obtain ⟨h1, i, hi, e⟩ := (sg_iff hp).mp hc
  have := prints_at h hi h1
  unfold markAt at this
  rw [hm, e, if_neg hd] at this
  exact this
/-- M3 -/
theorem told_all {l lo up : List Nat} {m p : Nat} (h : prints l lo up) (hm : up.length = m) (hp : p < m) (hd : up.getD p 0 ≠ 46) : (upperRim l m)[p]? = some (up.getD p 0) ∨ (upperRim l m)[p]? = some 63 := by
  rw [upper_get hp]
  rcases g_of_all (up_of h hm hp hd) with ⟨_, e⟩ | ⟨_, e⟩
  · exact .inr (by rw [e])
  · exact .inl (by rw [e])
/-- M1: where a pair prints, the rims are told -/
theorem told_of {l lo up : List Nat} {n m : Nat} (h : prints l lo up) (hm : up.length = m) (hn : lo.length = n) (m0 : 0 < m) (n0 : 0 < n) : rimOf (beneath l (upperRim l m)) n ≠ none := fun z => by
  obtain ⟨q, hq, h2⟩ := rimOn_none (one_signs _ n) z
  have hq : q < n := List.mem_range.mp hq
  have all : ∀ c, [c] ∈ signsAt (beneath l (upperRim l m)) n q → c = lo.getD q 0 := fun c hc => by
    obtain ⟨h1, i, hi, e⟩ := (sg_iff hq).mp hc
    cases hl : l[i]? with
    | none =>
      unfold beneath at hi
      rw [List.getElem?_mapIdx, hl] at hi
      cases hi
    | some d =>
      rw [ben_get hl, upper_len] at hi
      have hp : i % m < m := Nat.mod_lt _ m0
      by_cases c46 : (upperRim l m)[i % m]? = some 46
      · rw [if_pos c46] at hi
        obtain rfl : d = c := Option.some.inj hi
        have pr := prints_at h hl h1
        unfold markAt at pr
        rw [hm, hn, e] at pr
        by_cases u46 : up.getD (i % m) 0 = 46
        · rw [if_pos u46] at pr; exact pr
        · have ina : [d] ∈ signsAt l m (i % m) := (sg_iff hp).mpr ⟨h1, i, hl, rfl⟩
          rw [upper_get hp] at c46
          rcases g_of_all (up_of h hm hp u46) with ⟨a, _⟩ | ⟨_, a⟩
          · rw [a] at ina; cases ina
          · rw [a] at c46; exact absurd (Option.some.inj c46) u46
      · rw [if_neg c46] at hi
        exact absurd (Option.some.inj hi).symm h1
  obtain ⟨c, d, ne, hc, hd⟩ := two_signs h2
  exact ne ((all c hc).trans (all d hd).symm)
theorem rep1_get {y c : Nat} {l : List Nat} {i d : Nat} (h : l[i]? = some d) : (rep1 y c l).getD i 0 = if d = y then c else d := by
  rw [List.getD_eq_getElem?_getD, rep1, List.getElem?_map, h]; rfl
/-- M2: what is told prints, whatever stands for the unknown -/
theorem told_prints {l r : List Nat} {n m c : Nat} (m0 : 0 < m) (n0 : 0 < n) (h : rimOf (beneath l (upperRim l m)) n = some r) : prints l (rep1 63 c r) (rep1 63 c (upperRim l m)) := by
  obtain ⟨er, one⟩ := rimOn_some (one_signs _ n) h
  intro i hi
  have hl : l[i]? = some l[i] := List.getElem?_eq_getElem hi
  unfold okAt
  have el : l.getD i 0 = l[i] := by rw [List.getD_eq_getElem?_getD, hl]; rfl
  rw [el]
  by_cases h63 : l[i] = 63
  · exact .inr h63
  refine .inl ?_
  have hp : i % m < m := Nat.mod_lt _ m0
  have hq : i % n < n := Nat.mod_lt _ n0
  have ina : [l[i]] ∈ signsAt l m (i % m) := (sg_iff hp).mpr ⟨h63, i, hl, rfl⟩
  have lu : (rep1 63 c (upperRim l m)).length = m := by simp [rep1, upper_len]
  have lr : (rep1 63 c r).length = n := by simp [rep1, er]
  unfold markAt
  rw [lu, lr, rep1_get (upper_get hp)]
  have low : gAt (signsAt l m) (i % m) = 46 → l[i] = (rep1 63 c r).getD (i % n) 0 := fun g46 => by
    have hb : (beneath l (upperRim l m))[i]? = some l[i] := by rw [ben_get hl, upper_len, upper_get hp, g46]; rfl
    have inb : [l[i]] ∈ signsAt (beneath l (upperRim l m)) n (i % n) := (sg_iff hq).mpr ⟨h63, i, hb, rfl⟩
    have gb := g_one (one (i % n) (List.mem_range.mpr hq)) inb
    have rq : r[i % n]? = some l[i] := by
      rw [er, List.nil_append, List.getElem?_map, List.getElem?_range hq]
      exact congrArg some gb
    rw [rep1_get rq, if_neg h63]
  by_cases h1 : (signsAt l m (i % m)).length ≤ 1
  · have g := g_one h1 ina
    rw [g, if_neg h63]
    by_cases e46 : l[i] = 46
    · rw [if_pos e46]; exact low (g.trans e46)
    · rw [if_neg e46]
  · have g := g_two h1
    have e46 : (if (46 : Nat) = 63 then c else 46) = 46 := by simp
    rw [g, e46, if_pos rfl]
    exact low g
theorem rims_mem {signs : List Nat} : ∀ (k : Nat) (F : List (List Nat)) (x : List Nat), x ∈ rimsN signs k F ↔ ∃ y z, y ∈ F ∧ z.length = k ∧ (∀ c ∈ z, c ∈ signs) ∧ x = y ++ z
  | 0, F, x => by
    unfold rimsN
    constructor
    · intro h; exact ⟨x, [], h, rfl, by simp, by simp⟩
    · rintro ⟨y, z, hy, hz, _, rfl⟩
      obtain rfl : z = [] := List.length_eq_zero_iff.mp hz
      simpa using hy
  | k + 1, F, x => by
    unfold rimsN
    rw [rims_mem k]
    constructor
    · rintro ⟨y, z, hy, hz, hs, rfl⟩
      unfold longer at hy
      obtain ⟨y0, h0, h1⟩ := List.mem_flatMap.mp hy
      obtain ⟨c, hc, rfl⟩ := List.mem_map.mp h1
      exact ⟨y0, c :: z, h0, by simp [hz], fun d hd => (List.mem_cons.mp hd).elim (fun e => e ▸ hc) (hs d), by simp⟩
    · rintro ⟨y, z, hy, hz, hs, rfl⟩
      match z, hz, hs with
      | c :: z, hz, hs =>
        exact ⟨y ++ [c], z, List.mem_flatMap.mpr ⟨y, hy, List.mem_map.mpr ⟨c, hs c (by simp), rfl⟩⟩, by simpa using hz, fun d hd => hs d (List.mem_cons_of_mem _ hd), by simp⟩
abbrev abz : List Nat := [97, 98, 46]
theorem rims_iff {k : Nat} {x : List Nat} : x ∈ rimsN abz k [[]] ↔ x.length = k ∧ ∀ c ∈ x, c ∈ abz := by
  rw [rims_mem]
  constructor
  · rintro ⟨y, z, hy, hz, hs, rfl⟩
    obtain rfl : y = [] := by simpa using hy
    exact ⟨by simpa using hz, by simpa using hs⟩
  · rintro ⟨h1, h2⟩
    exact ⟨[], x, by simp, h1, h2, rfl⟩
theorem g_sign {l : List Nat} {n p : Nat} (hp : p < n) (ho : ∀ c ∈ l, c ∈ abz ∨ c = 63) : gAt (signsAt l n) p ∈ abz ∨ gAt (signsAt l n) p = 63 := by
  by_cases h : (signsAt l n p).length ≤ 1
  · by_cases e : signsAt l n p = []
    · right; unfold gAt; rw [e]
    · obtain ⟨x, hx⟩ := List.exists_mem_of_ne_nil _ e
      obtain ⟨c, rfl⟩ := one_signs l n p x hx
      rw [g_one h hx]
      obtain ⟨h63, i, hi, _⟩ := (sg_iff hp).mp hx
      exact .inl ((ho c (List.mem_of_getElem? hi)).resolve_right h63)
  · left; rw [g_two h]; decide
theorem rep_sign {l : List Nat} (ho : ∀ c ∈ l, c ∈ abz ∨ c = 63) : ∀ c ∈ rep1 63 97 l, c ∈ abz := fun c hc => by
  obtain ⟨d, hd, rfl⟩ := List.mem_map.mp hc
  by_cases e : d = 63
  · rw [if_pos e]; decide
  · rw [if_neg e]; exact (ho d hd).resolve_right e
instance {l lo up : List Nat} : Decidable (prints l lo up) := by unfold prints; infer_instance
/-- the pairs -/
def prs (l : List Nat) (n m : Nat) : List (List Nat) := (rimsN abz m [[]]).flatMap fun up => ((rimsN abz n [[]]).filter fun lo => decide (prints l lo up)).map fun _ => up
theorem pairs_mem {l : List Nat} {n m : Nat} {up : List Nat} : up ∈ prs l n m ↔ up ∈ rimsN abz m [[]] ∧ ∃ lo ∈ rimsN abz n [[]], prints l lo up := by
  unfold prs
  rw [List.mem_flatMap]
  constructor
  · rintro ⟨u, hu, h⟩
    obtain ⟨lo, hlo, rfl⟩ := List.mem_map.mp h
    obtain ⟨h1, h2⟩ := List.mem_filter.mp hlo
    exact ⟨hu, lo, h1, of_decide_eq_true h2⟩
  · rintro ⟨hu, lo, h1, h2⟩
    exact ⟨up, hu, List.mem_map.mpr ⟨lo, List.mem_filter.mpr ⟨h1, decide_eq_true h2⟩, rfl⟩⟩
theorem pairs_none {l : List Nat} {n m : Nat} (m0 : 0 < m) (n0 : 0 < n) (ho : ∀ c ∈ l, c ∈ abz ∨ c = 63) : rimOf (beneath l (upperRim l m)) n = none ↔ prs l n m = [] := by
  constructor
  · intro h
    apply List.eq_nil_iff_forall_not_mem.mpr
    intro up hup
    obtain ⟨h1, lo, h2, h3⟩ := pairs_mem.mp hup
    exact told_of h3 (rims_iff.mp h1).1 (rims_iff.mp h2).1 m0 n0 h
  · intro h
    cases e : rimOf (beneath l (upperRim l m)) n with
    | none => rfl
    | some r =>
      exfalso
      obtain ⟨er, _⟩ := rimOn_some (one_signs _ n) e
      have hb : ∀ c ∈ beneath l (upperRim l m), c ∈ abz ∨ c = 63 := fun c hc => by
        obtain ⟨i, hi⟩ := List.getElem?_of_mem hc
        cases el : l[i]? with
        | none => unfold beneath at hi; rw [List.getElem?_mapIdx, el] at hi; cases hi
        | some d =>
          rw [ben_get el] at hi
          split at hi
          · exact (Option.some.inj hi) ▸ ho d (List.mem_of_getElem? el)
          · exact .inr (Option.some.inj hi).symm
      have m1 : rep1 63 97 (upperRim l m) ∈ rimsN abz m [[]] := rims_iff.mpr ⟨by simp [rep1, upper_len], rep_sign fun c hc => by
        rw [upper_is] at hc
        obtain ⟨p, hp, rfl⟩ := List.mem_map.mp hc
        exact g_sign (List.mem_range.mp hp) ho⟩
      have m2 : rep1 63 97 r ∈ rimsN abz n [[]] := rims_iff.mpr ⟨by simp [rep1, er], rep_sign fun c hc => by
        rw [er, List.nil_append] at hc
        obtain ⟨p, hp, rfl⟩ := List.mem_map.mp hc
        exact g_sign (List.mem_range.mp hp) hb⟩
      have := pairs_mem.mpr ⟨m1, _, m2, told_prints m0 n0 e⟩
      rw [h] at this
      cases this
def pd_law : PD := fun ds Q _ => ∃ ns : List Int, ds = [.sq ns] ∧ ns.length ≤ 63 ∧ Q (.bl true)
abbrev s_law : Stmt := topS 24
abbrev N_law : List Str := ["script", "bag", "turn", "signs", "seen", "size", "wide", "told", "pairs", "upper", "mark", "k", "lower", "sign", "one"]
theorem sc_law : FnScope N_law ["script"] (defScope s_law) := ⟨rfl, rfl, rfl, by decide +kernel, rfl, by decide +kernel, by decide +kernel⟩
def lp_law_1 (b : Addr) : TDS (List Dat) := dExtend 8 (dFE (dLc (diList (dCall 2 pd__law_rims noE (dCons (dVar 5) (dCons (dC (.str [97, 98, 46])) (dNil))))) (gdName 12) (dB (dCall 3 pd__law_prints noE (dCons (dVar 4) (dCons (dVar 12) (dCons (dVar 9) (dNil)))))) (dVar 9) [12]))
def lp_law_2 (b : Addr) : TDS (List Dat) := dIfS (dB (dOp dNe (dFE (dLc (diAp dZipS (dCons (dVar 9) (dCons (dOp dIx (dVar 7) (dC (.int 1))) (dNil)))) (gdTup 2 (gdCons (gdName 13) (gdCons (gdName 14) (gdNil)))) (dAnd (dB (dOp dNe (dVar 13) (dC (.str [46])))) (dB (dOp dNotIn (dVar 14) (dTup (dCons (dVar 13) (dCons (dC (.str [63])) (dNil))))))) (dC (.int 1)) [13, 14])) (dFE (dLstF (dNil))))) (dRet (dC (.bl false))) (dNext)
def lp_law_3 (b : Addr) : TDS (List Dat) := dSeq (dSet 3 (dOp dIx (dFE (dLstF (dCons (dC (.str [97, 98, 46])) (dCons (dC (.str [97, 98, 46, 63])) (dCons (dC (.str [97, 97, 98, 46, 63, 63])) (dNil)))))) (dCallV 2 b pd__law_draw noE (dCons (dVar 1) (dCons (dC (.int 3)) (dNil)))))) (dSeq (dSet 4 (dBM "str" dJoin (dC (.str [])) (dCons (dFE (dLc (diAp dRng1 (dCons (dOp dAdd (dC (.int 1)) (dCallV 2 b pd__law_draw noE (dCons (dVar 1) (dCons (dC (.int 12)) (dNil))))) (dNil))) (gdName 11) (dYes) (dOp dIx (dVar 3) (dCallV 2 b pd__law_draw noE (dCons (dVar 1) (dCons (dAp dLen (dCons (dVar 3) (dNil))) (dNil))))) [11])) (dNil)))) (dSeq (dSet 5 (dOp dAdd (dC (.int 1)) (dCallV 2 b pd__law_draw noE (dCons (dVar 1) (dCons (dC (.int 3)) (dNil)))))) (dSeq (dSet 6 (dOp dAdd (dC (.int 1)) (dCallV 2 b pd__law_draw noE (dCons (dVar 1) (dCons (dC (.int 3)) (dNil)))))) (dSeq (dSet 7 (dCall 3 pd_two_for noE (dCons (dVar 4) (dCons (dVar 5) (dCons (dVar 6) (dNil)))))) (dSeq (dOwn 8 (dLstF (dNil))) (dSeq (dFor (diList (dCall 2 pd__law_rims noE (dCons (dVar 6) (dCons (dC (.str [97, 98, 46])) (dNil))))) (gdName 9) (lp_law_1 b)) (dDemA 8 (dSeq (dIfS (dB (dOp dNe (dOp dIsN (dVar 7) (dC .non)) (dOp dEq (dVar 8) (dFE (dLstF (dNil)))))) (dRet (dC (.bl false))) (dNext)) (dIfS (dB (dOp dNotN (dVar 7) (dC .non))) (dMark 10 4 7 [97, 98, 46] 63 (dCallV 2 b pd__law_draw noE (dCons (dVar 1) (dCons (dC (.int 3)) (dNil)))) pd__law_prints (dRet (dC (.bl false))) (dFor (diList (dVar 8)) (gdName 9) (lp_law_2 b))) (dNext))))))))))
def td_law : TDS (Unit) := dSwitch 1 (dCallN 1 pd__law_bag noE (dCons (dVar 0) (dNil))) fun b => dSeq (dFor (diAp dRng1 (dCons (dOp dAdd (dC (.int 1)) (dAp dMin2 (dCons (dC (.int 2)) (dCons (dAp dLen (dCons (dVar 0) (dNil))) (dNil))))) (dNil))) (gdName 2) (lp_law_3 b)) (dRet (dC (.bl true)))
theorem tm_law (g : GF K mg) (k_two_for : Kn P w K mg base "two_for" (spP K 3 pd_two_for) 4) (k__law_bag : Kn P w K mg base "_law_bag" (spN K 1 pd__law_bag) 1) (k__law_draw : Kn P w K mg base "_law_draw" (spV K 2 (CL K) pd__law_draw) 2) (k__law_rims : Kn P w K mg base "_law_rims" (spP K 2 pd__law_rims) 1) (k__law_prints : Kn P w K mg base "_law_prints" (spP K 3 pd__law_prints) 1) {cdv : Value} {A : Around} {outer : List Env} {s : Shared} {H : Hp} {E : XK} {AV : Av} {Ed : Value → Prop} {hE : ∀ {c dx H'}, ExtB [] H H' → Ed c → E c dx H'} (hr : Room 4 (A.deeper (envOfC "law" (defScope s_law) s.heap.objs.size fa cdv))) :
    ∃ t, DSs (cxOf (L2.CX P w) P w K mg base N_law "law" (defScope s_law) fa cdv A outer s H E) (dx0 H AV E Ed hE) (defBody s_law) t td_law := dss_switchE (i := 1) (df_call k__law_bag hr passX0 eok_0 (da_cons (de_var (pv 0)) da_nil)) sc_law.nd (fun b hb => (dss_cons (ds_for (passes_of rfl) rfl (di_rng1 g.n_range (da_cons (de_op op_addA lr_add de_int (de_callB (call_min2 rfl) lc_2I g.n_min (by rfl) (da_cons de_int (da_cons (de_callB call_len lc_len g.n_len (by rfl) (da_cons (de_var (pv 0)) da_nil)) da_nil)))) da_nil)) (dg_name (i := 2) sc_law.nd) (dss_cons (ds_set (i := 3) (de_ix (DF.toDE (df_lst (da_cons (de_str [97, 98, 46]) (da_cons (de_str [97, 98, 46, 63]) (da_cons (de_str [97, 97, 98, 46, 63, 63]) da_nil))))) (de_callV k__law_draw hr passX0 eok_0 rfl (da_cons (de_var (pv 1)) (da_cons de_int da_nil)))) sc_law.nd) (dss_cons (ds_set (i := 4) (de_bm PySem.F.plainAttrs_str PySem.F.slot_str_join PySem.F.type_str_join mt_join lm_join (de_str []) (da_cons (DF.toDE (df_lc (own := [("k", 11)]) rfl sc_law.nd (di_rng1 g.n_range (da_cons (de_op op_addA lr_add de_int (de_callV k__law_draw hr passX0 eok_0 rfl (da_cons (de_var (pv 1)) (da_cons de_int da_nil)))) da_nil)) (blkOk_by (N := N_law) (sc := defScope s_law) (by decide +kernel)) (fun _ _ _ _ _ => (dg_name (i := 11) sc_law.nd)) (fun _ _ _ _ _ => dts_nil) (fun _ _ _ _ _ => (show DE _ _ _ (tOp (rIx K) _ _) _ from (de_ix (de_var (pv 3)) (show DE _ _ _ (tCall (spV K 2 (CL K) pd__law_draw) [] E0 _) _ from (de_callV k__law_draw hr passX0 eok_0 rfl (da_cons (de_var (pv 1)) (da_cons (de_callB (r := rLenA K) call_len lc_len g.n_len (by rfl) (da_cons (de_var (pv 3)) da_nil)) da_nil))))))) (by decide))) da_nil)) sc_law.nd) (dss_cons (ds_set (i := 5) (de_op op_addA lr_add de_int (de_callV k__law_draw hr passX0 eok_0 rfl (da_cons (de_var (pv 1)) (da_cons de_int da_nil)))) sc_law.nd) (dss_cons (ds_set (i := 6) (de_op op_addA lr_add de_int (de_callV k__law_draw hr passX0 eok_0 rfl (da_cons (de_var (pv 1)) (da_cons de_int da_nil)))) sc_law.nd) (dss_cons (ds_set (i := 7) (de_call k_two_for hr passX0 eok_0 (da_cons (de_var (pv 4)) (da_cons (de_var (pv 5)) (da_cons (de_var (pv 6)) da_nil)))) sc_law.nd) (dss_cons (ds_own (i := 8) (df_lst da_nil) sc_law.nd) (dss_cons (ds_for (passes_of rfl) rfl (di_list (de_call k__law_rims hr passX0 eok_0 (da_cons (de_var (pv 6)) (da_cons (de_str [97, 98, 46]) da_nil)))) (dg_name (i := 9) sc_law.nd) (dss_one (ds_extend (i := 8) (DF.toDE (df_lc (own := [("lower", 12)]) rfl sc_law.nd (di_list (de_call k__law_rims hr passX0 eok_0 (da_cons (de_var (pv 5)) (da_cons (de_str [97, 98, 46]) da_nil)))) (blkOk_by (N := N_law) (sc := defScope s_law) (by decide +kernel)) (fun _ _ _ _ _ => (dg_name (i := 12) sc_law.nd)) (fun _ _ _ _ _ => dts_one (dt_val (show DE _ _ _ (tCall (spP K 3 pd__law_prints) [] E0 _) _ from (de_call k__law_prints hr passX0 eok_0 (da_cons (de_var (pv 4)) (da_cons (de_var (pv 12)) (da_cons (de_var (pv 9)) da_nil))))))) (fun _ _ _ _ _ => (de_var (pv 9))) (by decide))) (pv 8)))) (dss_demA (i := 8) (dss_cons (ds_if (dt_cmp (op_neA hr) lr_ne (de_cmp op_isN lr_isN (de_var (pv 7)) de_non (nomark _)) (de_cmp (op_eqA hr) lr_eq (de_var (pv 8)) (DF.toDE (df_lst da_nil)) (nomark _)) (nomark _)) (dss_one (ds_ret de_bl)) dss_nil) (dss_one (ds_if (dt_cmp op_notN lr_notN (de_var (pv 7)) de_non (nomark _)) (dss_mark (im := 10) (is := 4) (it := 7) (abc := [97, 98, 46]) (y := 63) k__law_prints hr (de_callV k__law_draw hr passX0 eok_0 rfl (da_cons (de_var (pv 1)) (da_cons de_int da_nil))) (dss_one (ds_ret de_bl)) (dss_one (ds_for (passes_of rfl) rfl (di_list (de_var (pv 8))) (dg_name (i := 9) sc_law.nd) (dss_one (ds_if (dt_cmp (op_neA hr) lr_ne (DF.toDE (df_lc (own := [("sign", 13), ("one", 14)]) rfl sc_law.nd (di_zipS g.n_zip (da_cons (de_var (pv 9)) (da_cons (de_ix (de_var (pv 7)) de_int) da_nil))) (blkOk_by (N := N_law) (sc := defScope s_law) (by decide +kernel)) (fun _ _ _ _ _ => (show DG _ _ _ (gTup K 2 _) _ _ from (dg_tup (n := 2) rfl (dgs_cons (dg_name (i := 13) sc_law.nd) (dgs_cons (dg_name (i := 14) sc_law.nd) dgs_nil))))) (fun _ _ _ _ _ => dts_one (DW.dt (dw_and (dt_cmp (r := rNeA K) (op_neA hr) lr_ne (de_var (pv 13)) (de_str [46]) (nomark _)) (dw_and1 (dt_cmp (r := rNotInA K) op_notInA lr_notIn (de_var (pv 14)) (de_tup (da_cons (de_var (pv 13)) (da_cons (de_str [63]) da_nil))) (by with_unfolding_all rfl)))))) (fun _ _ _ _ _ => de_int) (by decide))) (DF.toDE (df_lst da_nil)) (nomark _)) (dss_one (ds_ret de_bl)) dss_nil)))) sc_law.nd (by decide) (by decide)) dss_nil)))))))))))) (dss_one (ds_ret de_bl))))
theorem BagOk.le {n m : Int} {s : List Dat} (h : BagOk n s) (l : n ≤ m) : BagOk m s := by
  obtain ⟨cells, at_, rest, cnt, t, rfl, a1, a2, a3, a4, a5, a6⟩ := h
  exact ⟨cells, at_, rest, cnt, t, rfl, a1, a2, a3, a4, by omega, a6⟩
theorem draw_ok {b : Addr} {s : List Dat} {Q : Dat → List Dat → Prop} {E : Value → List Dat → Prop} {n : Int} (m : Int) (hb : BagOk n s) (hn : n < 100000) (h1 : 1 ≤ m) (h2 : m < 1073741824) (h : ∀ r s', 0 ≤ r → r < m → BagOk (n + 1) s' → Q (.int r) s') : pd__law_draw b [.ref b, .int m] s Q E := ⟨m, n, rfl, h1, h2, hb, by omega, h⟩
theorem zipS_len (a b : List Nat) : (zipD (sgs a) (sgs b)).length ≤ a.length := by simp [zipD]; omega
theorem zipS_mem {a b : List Nat} {d : Dat} (h : d ∈ zipD (sgs a) (sgs b)) : ∃ (p x y : Nat), a[p]? = some x ∧ b[p]? = some y ∧ d = .tup [.str [x], .str [y]] := by
  obtain ⟨p, hp⟩ := List.getElem?_of_mem h
  simp only [zipD, sgs, List.getElem?_zipWith, List.getElem?_map] at hp
  cases e1 : a[p]? with
  | none => rw [e1] at hp; cases hp
  | some x =>
    cases e2 : b[p]? with
    | none => rw [e1, e2] at hp; cases hp
    | some y =>
      rw [e1, e2] at hp
      exact ⟨p, x, y, e1, e2, (Option.some.inj hp).symm⟩
theorem rims_len3 {n : Nat} (hn : n ≤ 3) : (rimsN abz n [[]]).length ≤ 27 := by
  match n, hn with
  | 0, _ => decide
  | 1, _ => decide
  | 2, _ => decide
  | 3, _ => decide
theorem prs_loop {b : Addr} {l : List Nat} {n m : Nat} (n0 : 0 < n) (n3 : n ≤ 3) (m0 : 0 < m) (m3 : m ≤ 3) (De : DEnds (List Dat)) (s : List Dat) (x0 x1 x2 x3 x6 x7 x10 : Sl) : ∀ (us acc : List (List Nat)) (x9 x11 x12 x13 x14 : Sl), (∀ u ∈ us, u ∈ rimsN abz m [[]]) → acc.length + us.length * 27 ≤ 10000 →
    (∀ x9 x11 x12 x13 x14, De.nx [x0, x1, x2, x3, .dat (.str l), .dat (.int n), x6, x7, .own ((acc ++ us.flatMap fun up => ((rimsN abz n [[]]).filter fun lo => decide (prints l lo up)).map fun _ => up).map .str), x9, x10, x11, x12, x13, x14] s) →
    dForGo (gdName 9) (lp_law_1 b) De (us.map .str) [x0, x1, x2, x3, .dat (.str l), .dat (.int n), x6, x7, .own (acc.map .str), x9, x10, x11, x12, x13, x14] s
  | [], acc, x9, x11, x12, x13, x14, h1, h2, q => by simpa using q x9 x11 x12 x13 x14
  | u :: us, acc, x9, x11, x12, x13, x14, h1, h2, q => by
    have ih := prs_loop (b := b) (l := l) n0 n3 m0 m3 De s x0 x1 x2 x3 x6 x7 x10 us (acc ++ ((rimsN abz n [[]]).filter fun lo => decide (prints l lo u)).map fun _ => u)
    simp only [List.map_cons, dForGo]
    have hu := rims_iff.mp (h1 u (by simp))
    have hu0 : u ≠ [] := fun z => by rw [z] at hu; simp at hu; omega
    have r27 := rims_len3 n3
    simp at h2
    simp [lp_law_1, -dForGo]
    refine ⟨n, rfl, n3, ?_⟩
    simp [-dForGo]
    refine ⟨Nat.le_trans r27 (by decide), lc_fm (fun d => match d with | .str lo => decide (prints l lo u) | _ => false) (fun _ => .str u) (fun d hd C N q1 q2 => ?_) ?_⟩
    · obtain ⟨lo, hlo, rfl⟩ := List.mem_map.mp hd
      have hl := rims_iff.mp hlo
      have hl0 : lo ≠ [] := fun z => by rw [z] at hl; simp at hl; omega
      simp
      refine ⟨l, lo, u, rfl, hl0, hu0, by omega, by omega, fun h => ?_, fun h => ?_⟩
      · simpa using q1 (decide_eq_true h)
      · simpa using q2 (decide_eq_false h)
    · have e : ((List.map Dat.str (rimsN abz n [[]])).filter fun d => match d with | .str lo => decide (prints l lo u) | _ => false).map (fun _ => Dat.str u) = (((rimsN abz n [[]]).filter fun lo => decide (prints l lo u)).map fun _ => u).map .str := by
        rw [List.filter_map, List.map_map, List.map_map]
        rfl
      rw [List.nil_append, e]
      have fl := List.length_filter_le (fun lo => decide (prints l lo u)) (rimsN abz n [[]])
      simp [-dForGo]
      refine ⟨Nat.le_trans (by omega : acc.length + ((rimsN abz n [[]]).filter fun lo => decide (prints l lo u)).length ≤ 10000) (by decide), ?_⟩
      have := ih (.dat (.str u)) x11 x12 x13 x14 (fun v hv => h1 v (List.mem_cons_of_mem _ hv)) (by simp; omega) (by simpa using q)
      simpa [lp_law_1, -dForGo] using this
theorem vc_law {Ed : Value → Prop} (ds : List Dat) (Qd : Dat → Prop) (hl : ds.length = 1) (h : pd_law ds Qd Ed) : td_law { nx := fun _ _ => Qd .non, rt := fun d _ => Qd d } (startD N_law ds) () := by
  obtain ⟨ns, rfl, h1, q⟩ := h
  simp [td_law]
  refine ⟨ns, rfl, by omega, fun t t1 t2 b => ⟨by split <;> omega, by split <;> omega, ?_⟩⟩
  have hk : (1 + if (ns.length : Int) < 2 then (ns.length : Int) else 2).toNat ≤ 3 := by split <;> omega
  generalize (1 + if (ns.length : Int) < 2 then (ns.length : Int) else 2).toNat = k at hk ⊢
  refine for_inv (fun i ρ s => ∃ x2 x3 x4 x5 x6 x7 x8 x9 x10 x11 x12 x13 x14, ρ = [.dat (.sq ns), .dat (.ref b), x2, x3, x4, x5, x6, x7, x8, x9, x10, x11, x12, x13, x14] ∧ BagOk ((i : Nat) * 1000) s)
    ⟨_, _, _, _, _, _, _, _, _, _, _, _, _, rfl, ⟨ns, 0, 0, 0, t, rfl, by decide, by omega, by decide, by decide, by decide, t1, t2, by omega⟩⟩ (fun i d ρ s hd hI N hN => ?_) fun ρ s hI => ?_
  · obtain ⟨x2, x3, x4, x5, x6, x7, x8, x9, x10, x11, x12, x13, x14, rfl, hI⟩ := hI
    have hi : i < k := by have := (List.getElem?_eq_some_iff.mp hd).1; simpa using this
    have hd2 : d = .int (i : Nat) := by simp [hi] at hd; exact hd.symm
    subst hd2
    simp [lp_law_3]
    refine ⟨by decide, draw_ok 3 hI (by omega) (by decide) (by decide) fun r1 s1 a1 a2 hB => ?_⟩
    have hs : ∃ sg : List Nat, atI [Dat.str [97, 98, 46], Dat.str [97, 98, 46, 63], Dat.str [97, 97, 98, 46, 63, 63]] r1 = some (.str sg) ∧ sg ≠ [] ∧ sg.length ≤ 6 ∧ ∀ c ∈ sg, c ∈ abz ∨ c = 63 := by
      have : r1 = 0 ∨ r1 = 1 ∨ r1 = 2 := by omega
      rcases this with rfl | rfl | rfl
      · exact ⟨[97, 98, 46], rfl, by decide, by decide, by decide⟩
      · exact ⟨[97, 98, 46, 63], rfl, by decide, by decide, by decide⟩
      · exact ⟨[97, 97, 98, 46, 63, 63], rfl, by decide, by decide, by decide⟩
    obtain ⟨sg, hsg, sg0, sg6, sgo⟩ := hs
    refine ⟨.str sg, hsg, by simp [tyD], draw_ok 12 hB (by omega) (by decide) (by decide) fun r2 s2 b1 b2 hB => ?_⟩
    simp
    refine ⟨by omega, by omega, by show 1 + r2 ≤ 16777216; omega, lc_inv (fun j acc s => ∃ ls : List Nat, acc = ls.map (fun c => .str [c]) ∧ ls.length = j ∧ (∀ c ∈ ls, c ∈ abz ∨ c = 63) ∧ BagOk ((i : Nat) * 1000 + 2 + (j : Nat)) s) ⟨[], rfl, rfl, by simp, hB.le (by omega)⟩ (fun j d acc s hd hI C N hC hN => ?_) fun acc s hI => ?_⟩
    · obtain ⟨ls, rfl, lj, lo, hB⟩ := hI
      have hj : j < (1 + r2).toNat := by have := (List.getElem?_eq_some_iff.mp hd).1; simpa using this
      have sl : 0 < sg.length := List.length_pos_iff.mpr sg0
      simp
      refine ⟨Nat.le_trans sg6 (by decide : 6 ≤ 16777216), draw_ok _ hB (by omega) (by omega) (by omega) fun r3 s3 c1 c2 hB => ?_⟩
      obtain ⟨r3, rfl⟩ := Int.eq_ofNat_of_zero_le c1
      have h3 : r3 < sg.length := by omega
      simp [h3]
      refine ⟨Nat.le_trans sg6 (by decide : 6 ≤ 16777216), hC _ _ ⟨ls ++ [sg[r3]], by simp, by simp [lj], fun c hc => ?_, hB.le (by omega)⟩⟩
      rcases List.mem_append.mp hc with z | z
      · exact lo c z
      · rw [List.mem_singleton.mp z]; exact sgo _ (List.getElem_mem h3)
    · obtain ⟨l, rfl, ll, lo, hB⟩ := hI
      simp at ll
      simp only [List.length_map, List.length_range] at hB
      have ll13 : l.length ≤ 13 := by omega
      have l0 : l ≠ [] := fun z => by rw [z] at ll; simp at ll; omega
      simp [joinL_nil]
      refine ⟨Nat.le_trans ll13 (by decide : 13 ≤ 16777216), draw_ok 3 hB (by omega) (by decide) (by decide) fun r4 s4 c1 c2 hB => ?_⟩
      simp
      refine draw_ok 3 hB (by omega) (by decide) (by decide) fun r5 s5 d1 d2 hB => ?_
      obtain ⟨r4, rfl⟩ := Int.eq_ofNat_of_zero_le c1
      obtain ⟨r5, rfl⟩ := Int.eq_ofNat_of_zero_le d1
      have e4 : (1 + (r4 : Int)) = ((1 + r4 : Nat) : Int) := by omega
      have e5 : (1 + (r5 : Int)) = ((1 + r5 : Nat) : Int) := by omega
      simp only [e4, e5]
      have n3 : 1 + r4 ≤ 3 := by omega
      have m3 : 1 + r5 ≤ 3 := by omega
      have n0 : 0 < 1 + r4 := by omega
      have m0 : 0 < 1 + r5 := by omega
      generalize 1 + r4 = n at n3 n0 ⊢
      generalize 1 + r5 = m at m3 m0 ⊢
      refine ⟨l, n, m, rfl, l0, fun c hc => ?_, n0, by omega, m0, by omega, by omega, m, rfl, m3, ?_⟩
      · rcases lo c hc with z | z
        · have : ∀ c ∈ abz, c ∈ seenSigns := by decide
          exact this c z
        · rw [z]; decide
      simp
      refine prs_loop n0 n3 m0 m3 _ s5 _ _ _ _ _ _ _ (rimsN abz m [[]]) [] _ _ _ _ _ (fun _ h => h) (by have := rims_len3 m3; simp; omega) fun x9 x11 x12 x13 x14 => ?_
      have ep : ([] ++ (rimsN abz m [[]]).flatMap fun up => ((rimsN abz n [[]]).filter fun lo => decide (prints l lo up)).map fun _ => up) = prs l n m := rfl
      rw [ep]
      have okp : ∀ u ∈ prs l n m, okS u := fun u hu c hc => by
        have := (rims_iff.mp (pairs_mem.mp hu).1).2 c hc
        have all : ∀ c ∈ abz, c < 128 := by decide
        exact all c this
      have eok := eqok_strs okp
      have fin : ∀ x7 x8 x9 x10 x11 x12 x13 x14 s, BagOk ((i : Nat) * 1000 + 900) s → N [.dat (.sq ns), .dat (.ref b), .dat (.int i), .dat (.str sg), .dat (.str l), .dat (.int n), .dat (.int m), x7, x8, x9, x10, x11, x12, x13, x14] s := fun x7 x8 x9 x10 x11 x12 x13 x14 s h =>
        hN _ _ ⟨_, _, _, _, _, _, _, _, _, _, _, _, _, rfl, h.le (by omega)⟩
      cases e : rimOf (beneath l (upperRim l m)) n with
      | none =>
        have p0 := (pairs_none m0 n0 lo).mp e
        rw [p0]
        simp [isNone]
        exact fin _ _ _ _ _ _ _ _ _ (hB.le (by omega))
      | some r =>
        have p1 : prs l n m ≠ [] := fun z => by rw [(pairs_none m0 n0 lo).mpr z] at e; cases e
        have er := (rimOn_some (one_signs _ n) e).1
        have lr : r.length = n := by rw [er]; simp
        have lu := upper_len l m
        simp [isNone, eok, p1]
        refine draw_ok 3 hB (by omega) (by decide) (by decide) fun r6 s6 f1 f2 hB => ?_
        have hc : ∃ c, atI [97, 98, 46] r6 = some c ∧ c ≠ 63 := by
          have : r6 = 0 ∨ r6 = 1 ∨ r6 = 2 := by omega
          rcases this with rfl | rfl | rfl
          · exact ⟨97, rfl, by decide⟩
          · exact ⟨98, rfl, by decide⟩
          · exact ⟨46, rfl, by decide⟩
        obtain ⟨c, hc, c63⟩ := hc
        simp
        refine ⟨c, hc, c63, by omega, by omega, l, rep1 63 c r, rep1 63 c (upperRim l m), rfl, fun z => ?_, fun z => ?_, by simp [rep1]; omega, by simp [rep1]; omega, fun _ => ?_, fun h => absurd (told_prints m0 n0 e) h⟩
        · have := congrArg List.length z
          simp [rep1] at this
          rw [this] at lr; simp at lr; omega
        · have := congrArg List.length z
          simp [rep1] at this
          rw [this] at lu; simp at lu; omega
        simp
        refine for_inv (fun j ρ s => (∃ x9 x11 x12 x13 x14, ρ = [.dat (.sq ns), .dat (.ref b), .dat (.int i), .dat (.str sg), .dat (.str l), .dat (.int n), .dat (.int m), .dat (.tup [.str r, .str (upperRim l m)]), .dat (.lst ((prs l n m).map .str)), x9, .dat (.str [c]), x11, x12, x13, x14]) ∧ s = s6)
          ⟨⟨_, _, _, _, _, rfl⟩, rfl⟩ (fun j d ρ s hd hI N2 hN2 => ?_) fun ρ s hI => ?_
        · obtain ⟨⟨x9, x11, x12, x13, x14, rfl⟩, rfl⟩ := hI
          obtain ⟨up, hup, rfl⟩ := List.mem_map.mp (List.mem_of_getElem? hd)
          obtain ⟨hu1, lo', _, hpr⟩ := pairs_mem.mp hup
          have hu := rims_iff.mp hu1
          simp [lp_law_2]
          refine ⟨.str (upperRim l m), rfl, ?_⟩
          simp
          refine ⟨Nat.le_trans (zipS_len up _) (Nat.le_trans (by omega : up.length ≤ 3) (by decide : 3 ≤ 16777216)), lc_fm (fun _ => false) id (fun d hd C N3 q1 q2 => ?_) ?_⟩
          · obtain ⟨p, a, c', ha, hb, rfl⟩ := zipS_mem hd
            have q2 := q2 rfl
            simp [ha, hb]
            have hp : p < m := by have := (List.getElem?_eq_some_iff.mp ha).1; omega
            have ga : up.getD p 0 = a := by rw [List.getD_eq_getElem?_getD, ha]; rfl
            by_cases a46 : a = 46
            · simp [a46, q2]
            · have := told_all hpr hu.1 hp (by rw [ga]; exact a46)
              rw [ga, hb] at this
              simp [a46]
              refine ⟨by decide, fun h1 h2 => ?_, fun _ => q2⟩
              rcases this with z | z
              · exact absurd (Option.some.inj z).symm h1
              · exact absurd (Option.some.inj z).symm h2
          · rw [show (zipD (sgs up) (sgs (upperRim l m))).filter (fun _ => false) = [] from by simp]
            simp
            exact hN2 _ _ ⟨⟨_, _, _, _, _, rfl⟩, rfl⟩
        · obtain ⟨⟨x9, x11, x12, x13, x14, rfl⟩, rfl⟩ := hI
          exact fin _ _ _ _ _ _ _ _ _ (hB.le (by omega))
  · obtain ⟨x2, x3, x4, x5, x6, x7, x8, x9, x10, x11, x12, x13, x14, rfl, hI⟩ := hI
    simpa using q

theorem kn_need_seen (g : GF K mg)  {fd : FuncData} (F : Fun K "need_seen" "need_seen" s_need_seen fa fd) (hm : mg "need_seen" = some (.ref fa)) : Kn P w K mg base "need_seen" (spP K 1 pd_need_seen) 1 :=
  .mk' (fn_pure F sc_need_seen fun cdv A outer s H E AV Ed hE hr => let ⟨t, T⟩ := tm_need_seen g  hr; ⟨t, _, T, vc_need_seen⟩) hm F.kp (F.binds (ps := ["thing"]) fun _ _ _ _ _ _ us hl => match us, hl with | [_], _ => rfl)
theorem kn_need_length (g : GF K mg)  {fd : FuncData} (F : Fun K "need_length" "need_length" s_need_length fa fd) (hm : mg "need_length" = some (.ref fa)) : Kn P w K mg base "need_length" (spP K 1 pd_need_length) 1 :=
  .mk' (fn_pure F sc_need_length fun cdv A outer s H E AV Ed hE hr => let ⟨t, T⟩ := tm_need_length g  hr; ⟨t, _, T, vc_need_length⟩) hm F.kp (F.binds (ps := ["thing"]) fun _ _ _ _ _ _ us hl => match us, hl with | [_], _ => rfl)
theorem kn_seen_at (g : GF K mg)  {fd : FuncData} (F : Fun K "seen_at" "seen_at" s_seen_at fa fd) (hm : mg "seen_at" = some (.ref fa)) : Kn P w K mg base "seen_at" (spP K 3 pd_seen_at) 1 :=
  .mk' (fn_pure F sc_seen_at fun cdv A outer s H E AV Ed hE hr => let ⟨t, T⟩ := tm_seen_at g  hr; ⟨t, _, T, vc_seen_at⟩) hm F.kp (F.binds (ps := ["seen", "length", "place"]) fun _ _ _ _ _ _ us hl => match us, hl with | [_, _, _], _ => rfl)
theorem kn_rim_of (g : GF K mg) (k_seen_at : Kn P w K mg base "seen_at" (spP K 3 pd_seen_at) 1) {fd : FuncData} (F : Fun K "rim_of" "rim_of" s_rim_of fa fd) (hm : mg "rim_of" = some (.ref fa)) : Kn P w K mg base "rim_of" (spP K 2 pd_rim_of) 2 :=
  .mk' (fn_pure F sc_rim_of fun cdv A outer s H E AV Ed hE hr => let ⟨t, T⟩ := tm_rim_of g k_seen_at hr; ⟨t, _, T, vc_rim_of⟩) hm F.kp (F.binds (ps := ["seen", "length"]) fun _ _ _ _ _ _ us hl => match us, hl with | [_, _], _ => rfl)
theorem kn_upper_rim (g : GF K mg) (k_seen_at : Kn P w K mg base "seen_at" (spP K 3 pd_seen_at) 1) {fd : FuncData} (F : Fun K "upper_rim" "upper_rim" s_upper_rim fa fd) (hm : mg "upper_rim" = some (.ref fa)) : Kn P w K mg base "upper_rim" (spP K 2 pd_upper_rim) 2 :=
  .mk' (fn_pure F sc_upper_rim fun cdv A outer s H E AV Ed hE hr => let ⟨t, T⟩ := tm_upper_rim g k_seen_at hr; ⟨t, _, T, vc_upper_rim⟩) hm F.kp (F.binds (ps := ["seen", "length"]) fun _ _ _ _ _ _ us hl => match us, hl with | [_, _], _ => rfl)
theorem kn_left_beneath (g : GF K mg)  {fd : FuncData} (F : Fun K "left_beneath" "left_beneath" s_left_beneath fa fd) (hm : mg "left_beneath" = some (.ref fa)) : Kn P w K mg base "left_beneath" (spP K 2 pd_left_beneath) 1 :=
  .mk' (fn_pure F sc_left_beneath fun cdv A outer s H E AV Ed hE hr => let ⟨t, T⟩ := tm_left_beneath g  hr; ⟨t, _, T, vc_left_beneath⟩) hm F.kp (F.binds (ps := ["seen", "rim"]) fun _ _ _ _ _ _ us hl => match us, hl with | [_, _], _ => rfl)
theorem kn_two_rims (g : GF K mg) (k_rim_of : Kn P w K mg base "rim_of" (spP K 2 pd_rim_of) 2) (k_upper_rim : Kn P w K mg base "upper_rim" (spP K 2 pd_upper_rim) 2) (k_left_beneath : Kn P w K mg base "left_beneath" (spP K 2 pd_left_beneath) 1) {fd : FuncData} (F : Fun K "two_rims" "two_rims" s_two_rims fa fd) (hm : mg "two_rims" = some (.ref fa)) : Kn P w K mg base "two_rims" (spP K 3 pd_two_rims) 3 :=
  .mk' (fn_pure F sc_two_rims fun cdv A outer s H E AV Ed hE hr => let ⟨t, T⟩ := tm_two_rims g k_rim_of k_upper_rim k_left_beneath hr; ⟨t, _, T, vc_two_rims⟩) hm F.kp (F.binds (ps := ["seen", "lower", "upper"]) fun _ _ _ _ _ _ us hl => match us, hl with | [_, _, _], _ => rfl)
theorem kn_two_for (g : GF K mg) (k_need_seen : Kn P w K mg base "need_seen" (spP K 1 pd_need_seen) 1) (k_need_length : Kn P w K mg base "need_length" (spP K 1 pd_need_length) 1) (k_two_rims : Kn P w K mg base "two_rims" (spP K 3 pd_two_rims) 3) {fd : FuncData} (F : Fun K "two_for" "two_for" s_two_for fa fd) (hm : mg "two_for" = some (.ref fa)) : Kn P w K mg base "two_for" (spP K 3 pd_two_for) 4 :=
  .mk' (fn_pure F sc_two_for fun cdv A outer s H E AV Ed hE hr => let ⟨t, T⟩ := tm_two_for g k_need_seen k_need_length k_two_rims hr; ⟨t, _, T, vc_two_for⟩) hm F.kp (F.binds (ps := ["seen", "lower", "upper"]) fun _ _ _ _ _ _ us hl => match us, hl with | [_, _, _], _ => rfl)
theorem kn__law_bag (g : GF K mg)  {fd : FuncData} (F : Fun K "_law_bag" "_law_bag" s__law_bag fa fd) (hm : mg "_law_bag" = some (.ref fa)) : Kn P w K mg base "_law_bag" (spN K 1 pd__law_bag) 1 :=
  .mk' (fn_new F sc__law_bag fun cdv A outer s H E AV Ed hE hr => let ⟨t, T⟩ := tm__law_bag g  hr; ⟨t, _, T, vc__law_bag⟩) hm F.kp (F.binds (ps := ["script"]) fun _ _ _ _ _ _ us hl => match us, hl with | [_], _ => rfl)
theorem kn__law_stir (g : GF K mg)  {fd : FuncData} (F : Fun K "_law_stir" "_law_stir" s__law_stir fa fd) (hm : mg "_law_stir" = some (.ref fa)) : Kn P w K mg base "_law_stir" (spP K 2 pd__law_stir) 1 :=
  .mk' (fn_pure F sc__law_stir fun cdv A outer s H E AV Ed hE hr => let ⟨t, T⟩ := tm__law_stir g  hr; ⟨t, _, T, vc__law_stir⟩) hm F.kp (F.binds (ps := ["number", "place"]) fun _ _ _ _ _ _ us hl => match us, hl with | [_, _], _ => rfl)
theorem kn__law_draw (g : GF K mg) (k__law_stir : Kn P w K mg base "_law_stir" (spP K 2 pd__law_stir) 1) {fd : FuncData} (F : Fun K "_law_draw" "_law_draw" s__law_draw fa fd) (hm : mg "_law_draw" = some (.ref fa)) : Kn P w K mg base "_law_draw" (spV K 2 (CL K) pd__law_draw) 2 :=
  .mk' (fn_V (CB := CL K) F sc__law_draw fun cdv A outer s H E b AV Ed hE hr => let ⟨t, T⟩ := tm__law_draw g k__law_stir hr; ⟨t, _, T, vc__law_draw⟩) hm F.kp (F.binds (ps := ["bag", "many"]) fun _ _ _ _ _ _ us hl => match us, hl with | [_, _], _ => rfl)
theorem kn__law_rims (g : GF K mg)  {fd : FuncData} (F : Fun K "_law_rims" "_law_rims" s__law_rims fa fd) (hm : mg "_law_rims" = some (.ref fa)) : Kn P w K mg base "_law_rims" (spP K 2 pd__law_rims) 1 :=
  .mk' (fn_pure F sc__law_rims fun cdv A outer s H E AV Ed hE hr => let ⟨t, T⟩ := tm__law_rims g  hr; ⟨t, _, T, vc__law_rims⟩) hm F.kp (F.binds (ps := ["size", "signs"]) fun _ _ _ _ _ _ us hl => match us, hl with | [_, _], _ => rfl)
theorem kn__law_prints (g : GF K mg)  {fd : FuncData} (F : Fun K "_law_prints" "_law_prints" s__law_prints fa fd) (hm : mg "_law_prints" = some (.ref fa)) : Kn P w K mg base "_law_prints" (spP K 3 pd__law_prints) 1 :=
  .mk' (fn_pure F sc__law_prints fun cdv A outer s H E AV Ed hE hr => let ⟨t, T⟩ := tm__law_prints g  hr; ⟨t, _, T, vc__law_prints⟩) hm F.kp (F.binds (ps := ["seen", "lower", "upper"]) fun _ _ _ _ _ _ us hl => match us, hl with | [_, _, _], _ => rfl)
theorem ok_law (g : GF K mg) (k_two_for : Kn P w K mg base "two_for" (spP K 3 pd_two_for) 4) (k__law_bag : Kn P w K mg base "_law_bag" (spN K 1 pd__law_bag) 1) (k__law_draw : Kn P w K mg base "_law_draw" (spV K 2 (CL K) pd__law_draw) 2) (k__law_rims : Kn P w K mg base "_law_rims" (spP K 2 pd__law_rims) 1) (k__law_prints : Kn P w K mg base "_law_prints" (spP K 3 pd__law_prints) 1) {fd : FuncData} (F : Fun K "law" "law" s_law fa fd) : FnOk P w K mg base (L2.CX P w) 5 fa fd ["script"] (spP K 1 pd_law) :=
  fn_pure F sc_law fun cdv A outer s H E AV Ed hE hr => let ⟨t, T⟩ := tm_law g k_two_for k__law_bag k__law_draw k__law_rims k__law_prints hr; ⟨t, _, T, vc_law⟩
theorem all_mk {l : PySem.W.OpenLaw} {w : World} {K : PySem.W.Frag} {h : Heap} {mg : Str → Option Value} {fa : Addr} (X : K.In h) (G : h.Ns mainGlobals mg) (hfa : mg "law" = some (.ref fa))
    {f0 : Addr} {od0 an0 : Option Addr} {sl0 : Array (Option Value)} {oc0 kV0 dc0 pm0 cd0 ct0 : Value}
    {f1 : Addr} {od1 an1 : Option Addr} {sl1 : Array (Option Value)} {oc1 kV1 dc1 pm1 cd1 ct1 : Value}
    {f2 : Addr} {od2 an2 : Option Addr} {sl2 : Array (Option Value)} {oc2 kV2 dc2 pm2 cd2 ct2 : Value}
    {f3 : Addr} {od3 an3 : Option Addr} {sl3 : Array (Option Value)} {oc3 kV3 dc3 pm3 cd3 ct3 : Value}
    {f4 : Addr} {od4 an4 : Option Addr} {sl4 : Array (Option Value)} {oc4 kV4 dc4 pm4 cd4 ct4 : Value}
    {f5 : Addr} {od5 an5 : Option Addr} {sl5 : Array (Option Value)} {oc5 kV5 dc5 pm5 cd5 ct5 : Value}
    {f6 : Addr} {od6 an6 : Option Addr} {sl6 : Array (Option Value)} {oc6 kV6 dc6 pm6 cd6 ct6 : Value}
    {f7 : Addr} {od7 an7 : Option Addr} {sl7 : Array (Option Value)} {oc7 kV7 dc7 pm7 cd7 ct7 : Value}
    {f8 : Addr} {od8 an8 : Option Addr} {sl8 : Array (Option Value)} {oc8 kV8 dc8 pm8 cd8 ct8 : Value}
    {f9 : Addr} {od9 an9 : Option Addr} {sl9 : Array (Option Value)} {oc9 kV9 dc9 pm9 cd9 ct9 : Value}
    {f10 : Addr} {od10 an10 : Option Addr} {sl10 : Array (Option Value)} {oc10 kV10 dc10 pm10 cd10 ct10 : Value}
    {f11 : Addr} {od11 an11 : Option Addr} {sl11 : Array (Option Value)} {oc11 kV11 dc11 pm11 cd11 ct11 : Value}
    {f12 : Addr} {od12 an12 : Option Addr} {sl12 : Array (Option Value)} {oc12 kV12 dc12 pm12 cd12 ct12 : Value}
    {f13 : Addr} {od13 an13 : Option Addr} {sl13 : Array (Option Value)} {oc13 kV13 dc13 pm13 cd13 ct13 : Value}
    {t_LONGEST_RIM : Tok}
    {t_NO_MARK : Tok}
    {t_SEEN_SIGNS : Tok}
    {t_UNSEEN : Tok}
    (a0 : PySem.W.nsIn K mainGlobals "need_seen" = some (some (.ref f0))) (l0 : K.lookup f0 = some ⟨oc0, od0, .func (PySem.W.fnOf "need_seen" "need_seen" (defArgs s_need_seen) (defBody s_need_seen) (defScope s_need_seen) .none kV0 dc0 pm0 an0 cd0 ct0), sl0⟩) (c0 : PySem.W.codeIn K cd0 "need_seen" = true) (k0 : PySem.W.keepIn K (.ref f0) = true)
    (a1 : PySem.W.nsIn K mainGlobals "need_length" = some (some (.ref f1))) (l1 : K.lookup f1 = some ⟨oc1, od1, .func (PySem.W.fnOf "need_length" "need_length" (defArgs s_need_length) (defBody s_need_length) (defScope s_need_length) .none kV1 dc1 pm1 an1 cd1 ct1), sl1⟩) (c1 : PySem.W.codeIn K cd1 "need_length" = true) (k1 : PySem.W.keepIn K (.ref f1) = true)
    (a2 : PySem.W.nsIn K mainGlobals "seen_at" = some (some (.ref f2))) (l2 : K.lookup f2 = some ⟨oc2, od2, .func (PySem.W.fnOf "seen_at" "seen_at" (defArgs s_seen_at) (defBody s_seen_at) (defScope s_seen_at) .none kV2 dc2 pm2 an2 cd2 ct2), sl2⟩) (c2 : PySem.W.codeIn K cd2 "seen_at" = true) (k2 : PySem.W.keepIn K (.ref f2) = true)
    (a3 : PySem.W.nsIn K mainGlobals "rim_of" = some (some (.ref f3))) (l3 : K.lookup f3 = some ⟨oc3, od3, .func (PySem.W.fnOf "rim_of" "rim_of" (defArgs s_rim_of) (defBody s_rim_of) (defScope s_rim_of) .none kV3 dc3 pm3 an3 cd3 ct3), sl3⟩) (c3 : PySem.W.codeIn K cd3 "rim_of" = true) (k3 : PySem.W.keepIn K (.ref f3) = true)
    (a4 : PySem.W.nsIn K mainGlobals "upper_rim" = some (some (.ref f4))) (l4 : K.lookup f4 = some ⟨oc4, od4, .func (PySem.W.fnOf "upper_rim" "upper_rim" (defArgs s_upper_rim) (defBody s_upper_rim) (defScope s_upper_rim) .none kV4 dc4 pm4 an4 cd4 ct4), sl4⟩) (c4 : PySem.W.codeIn K cd4 "upper_rim" = true) (k4 : PySem.W.keepIn K (.ref f4) = true)
    (a5 : PySem.W.nsIn K mainGlobals "left_beneath" = some (some (.ref f5))) (l5 : K.lookup f5 = some ⟨oc5, od5, .func (PySem.W.fnOf "left_beneath" "left_beneath" (defArgs s_left_beneath) (defBody s_left_beneath) (defScope s_left_beneath) .none kV5 dc5 pm5 an5 cd5 ct5), sl5⟩) (c5 : PySem.W.codeIn K cd5 "left_beneath" = true) (k5 : PySem.W.keepIn K (.ref f5) = true)
    (a6 : PySem.W.nsIn K mainGlobals "two_rims" = some (some (.ref f6))) (l6 : K.lookup f6 = some ⟨oc6, od6, .func (PySem.W.fnOf "two_rims" "two_rims" (defArgs s_two_rims) (defBody s_two_rims) (defScope s_two_rims) .none kV6 dc6 pm6 an6 cd6 ct6), sl6⟩) (c6 : PySem.W.codeIn K cd6 "two_rims" = true) (k6 : PySem.W.keepIn K (.ref f6) = true)
    (a7 : PySem.W.nsIn K mainGlobals "two_for" = some (some (.ref f7))) (l7 : K.lookup f7 = some ⟨oc7, od7, .func (PySem.W.fnOf "two_for" "two_for" (defArgs s_two_for) (defBody s_two_for) (defScope s_two_for) .none kV7 dc7 pm7 an7 cd7 ct7), sl7⟩) (c7 : PySem.W.codeIn K cd7 "two_for" = true) (k7 : PySem.W.keepIn K (.ref f7) = true)
    (a8 : PySem.W.nsIn K mainGlobals "_law_bag" = some (some (.ref f8))) (l8 : K.lookup f8 = some ⟨oc8, od8, .func (PySem.W.fnOf "_law_bag" "_law_bag" (defArgs s__law_bag) (defBody s__law_bag) (defScope s__law_bag) .none kV8 dc8 pm8 an8 cd8 ct8), sl8⟩) (c8 : PySem.W.codeIn K cd8 "_law_bag" = true) (k8 : PySem.W.keepIn K (.ref f8) = true)
    (a9 : PySem.W.nsIn K mainGlobals "_law_stir" = some (some (.ref f9))) (l9 : K.lookup f9 = some ⟨oc9, od9, .func (PySem.W.fnOf "_law_stir" "_law_stir" (defArgs s__law_stir) (defBody s__law_stir) (defScope s__law_stir) .none kV9 dc9 pm9 an9 cd9 ct9), sl9⟩) (c9 : PySem.W.codeIn K cd9 "_law_stir" = true) (k9 : PySem.W.keepIn K (.ref f9) = true)
    (a10 : PySem.W.nsIn K mainGlobals "_law_draw" = some (some (.ref f10))) (l10 : K.lookup f10 = some ⟨oc10, od10, .func (PySem.W.fnOf "_law_draw" "_law_draw" (defArgs s__law_draw) (defBody s__law_draw) (defScope s__law_draw) .none kV10 dc10 pm10 an10 cd10 ct10), sl10⟩) (c10 : PySem.W.codeIn K cd10 "_law_draw" = true) (k10 : PySem.W.keepIn K (.ref f10) = true)
    (a11 : PySem.W.nsIn K mainGlobals "_law_rims" = some (some (.ref f11))) (l11 : K.lookup f11 = some ⟨oc11, od11, .func (PySem.W.fnOf "_law_rims" "_law_rims" (defArgs s__law_rims) (defBody s__law_rims) (defScope s__law_rims) .none kV11 dc11 pm11 an11 cd11 ct11), sl11⟩) (c11 : PySem.W.codeIn K cd11 "_law_rims" = true) (k11 : PySem.W.keepIn K (.ref f11) = true)
    (a12 : PySem.W.nsIn K mainGlobals "_law_prints" = some (some (.ref f12))) (l12 : K.lookup f12 = some ⟨oc12, od12, .func (PySem.W.fnOf "_law_prints" "_law_prints" (defArgs s__law_prints) (defBody s__law_prints) (defScope s__law_prints) .none kV12 dc12 pm12 an12 cd12 ct12), sl12⟩) (c12 : PySem.W.codeIn K cd12 "_law_prints" = true) (k12 : PySem.W.keepIn K (.ref f12) = true)
    (a13 : PySem.W.nsIn K mainGlobals "law" = some (some (.ref f13))) (l13 : K.lookup f13 = some ⟨oc13, od13, .func (PySem.W.fnOf "law" "law" (defArgs s_law) (defBody s_law) (defScope s_law) .none kV13 dc13 pm13 an13 cd13 ct13), sl13⟩) (c13 : PySem.W.codeIn K cd13 "law" = true) (k13 : PySem.W.keepIn K (.ref f13) = true)
    (z_bool : PySem.W.nsIn K mainGlobals "bool" = some none)
    (z_enumerate : PySem.W.nsIn K mainGlobals "enumerate" = some none)
    (z_int : PySem.W.nsIn K mainGlobals "int" = some none)
    (z_isinstance : PySem.W.nsIn K mainGlobals "isinstance" = some none)
    (z_len : PySem.W.nsIn K mainGlobals "len" = some none)
    (z_list : PySem.W.nsIn K mainGlobals "list" = some none)
    (z_min : PySem.W.nsIn K mainGlobals "min" = some none)
    (z_range : PySem.W.nsIn K mainGlobals "range" = some none)
    (z_set : PySem.W.nsIn K mainGlobals "set" = some none)
    (z_sorted : PySem.W.nsIn K mainGlobals "sorted" = some none)
    (z_str : PySem.W.nsIn K mainGlobals "str" = some none)
    (z_zip : PySem.W.nsIn K mainGlobals "zip" = some none)
    (v_LONGEST_RIM : PySem.W.nsIn K mainGlobals "LONGEST_RIM" = some (some (.int 40 t_LONGEST_RIM)))
    (v_NO_MARK : PySem.W.nsIn K mainGlobals "NO_MARK" = some (some (.str "." t_NO_MARK)))
    (v_SEEN_SIGNS : PySem.W.nsIn K mainGlobals "SEEN_SIGNS" = some (some (.str "abcdefghijklmnopqrstuvwxyz.?" t_SEEN_SIGNS)))
    (v_UNSEEN : PySem.W.nsIn K mainGlobals "UNSEEN" = some (some (.str "?" t_UNSEEN))) :
    ∃ fd : FuncData, (∀ (s : Shared) (v : Value), BindsTo s fd ⟨[v], []⟩ [("script", v)]) ∧ ∀ base : Heap, K.In base → base.Ns mainGlobals mg → FnOk l.prog w K mg base (L2.CX l.prog w) 5 fa fd ["script"] (spP K 1 pd_law) := by
  have e := hfa.symm.trans (PySem.W.mg_of X G a13)
  cases e
  have gg : GF K mg := ⟨PySem.W.mg_none_of X G z_bool, PySem.W.mg_none_of X G z_enumerate, PySem.W.mg_none_of X G z_int, PySem.W.mg_none_of X G z_isinstance, PySem.W.mg_none_of X G z_len, PySem.W.mg_none_of X G z_list, PySem.W.mg_none_of X G z_min, PySem.W.mg_none_of X G z_range, PySem.W.mg_none_of X G z_set, PySem.W.mg_none_of X G z_sorted, PySem.W.mg_none_of X G z_str, PySem.W.mg_none_of X G z_zip, ⟨_, PySem.W.mg_of X G v_LONGEST_RIM⟩, ⟨_, PySem.W.mg_of X G v_NO_MARK⟩, ⟨_, PySem.W.mg_of X G v_SEEN_SIGNS⟩, ⟨_, PySem.W.mg_of X G v_UNSEEN⟩⟩
  refine ⟨PySem.W.fnOf "law" "law" (defArgs s_law) (defBody s_law) (defScope s_law) .none kV13 dc13 pm13 an13 cd13 ct13, fun s v => .of_eq rfl, fun base _ _ => ?_⟩
  have q_need_seen := kn_need_seen (P := l.prog) (w := w) (base := base) gg  (fun_mk (st := s_need_seen) l0 c0 k0) (PySem.W.mg_of X G a0)
  have q_need_length := kn_need_length (P := l.prog) (w := w) (base := base) gg  (fun_mk (st := s_need_length) l1 c1 k1) (PySem.W.mg_of X G a1)
  have q_seen_at := kn_seen_at (P := l.prog) (w := w) (base := base) gg  (fun_mk (st := s_seen_at) l2 c2 k2) (PySem.W.mg_of X G a2)
  have q_rim_of := kn_rim_of (P := l.prog) (w := w) (base := base) gg q_seen_at (fun_mk (st := s_rim_of) l3 c3 k3) (PySem.W.mg_of X G a3)
  have q_upper_rim := kn_upper_rim (P := l.prog) (w := w) (base := base) gg q_seen_at (fun_mk (st := s_upper_rim) l4 c4 k4) (PySem.W.mg_of X G a4)
  have q_left_beneath := kn_left_beneath (P := l.prog) (w := w) (base := base) gg  (fun_mk (st := s_left_beneath) l5 c5 k5) (PySem.W.mg_of X G a5)
  have q_two_rims := kn_two_rims (P := l.prog) (w := w) (base := base) gg q_rim_of q_upper_rim q_left_beneath (fun_mk (st := s_two_rims) l6 c6 k6) (PySem.W.mg_of X G a6)
  have q_two_for := kn_two_for (P := l.prog) (w := w) (base := base) gg q_need_seen q_need_length q_two_rims (fun_mk (st := s_two_for) l7 c7 k7) (PySem.W.mg_of X G a7)
  have q__law_bag := kn__law_bag (P := l.prog) (w := w) (base := base) gg  (fun_mk (st := s__law_bag) l8 c8 k8) (PySem.W.mg_of X G a8)
  have q__law_stir := kn__law_stir (P := l.prog) (w := w) (base := base) gg  (fun_mk (st := s__law_stir) l9 c9 k9) (PySem.W.mg_of X G a9)
  have q__law_draw := kn__law_draw (P := l.prog) (w := w) (base := base) gg q__law_stir (fun_mk (st := s__law_draw) l10 c10 k10) (PySem.W.mg_of X G a10)
  have q__law_rims := kn__law_rims (P := l.prog) (w := w) (base := base) gg  (fun_mk (st := s__law_rims) l11 c11 k11) (PySem.W.mg_of X G a11)
  have q__law_prints := kn__law_prints (P := l.prog) (w := w) (base := base) gg  (fun_mk (st := s__law_prints) l12 c12 k12) (PySem.W.mg_of X G a12)
  exact ok_law gg q_two_for q__law_bag q__law_draw q__law_rims q__law_prints (fun_mk (st := s_law) l13 c13 k13)
end K55
open PySem PySem.W PyProof.Rows
set_option maxHeartbeats 0 in
theorem PySem.Challenge.cw_rimprints_k55_whole_no_pair_missed_holds : PySem.Challenge.rw_rimprints_k55_whole_no_pair_missed.Holds := by
  w_on; o_law; k_head; (case hw => w_witness2)
  k_fill
  refine L2.walk_of (l := PySem.Challenge.rw_rimprints_k55_whole_no_pair_missed) (n := 63) (k := 5) (x := "script") (CX := fun w => L2.CX PySem.Challenge.rw_rimprints_k55_whole_no_pair_missed.prog w) (sp := fun w => Dl.spP _ 1 K55.pd_law) rfl (by decide) rfl ⟨rfl, by decide, by decide⟩ (fun w h Y => PySem.W.kIn_of Y) ?F (fun _ H a ns hl hO hS => Dl.law_sp hS ⟨ns, rfl, hl, rfl⟩) (fun _ _ _ _ _ h => Dl.cx_none h)
  case F =>
    intro w mg fa h KX G hmg
    refine' K55.all_mk KX G hmg ?a0 ?l0 ?c0 ?k0 ?a1 ?l1 ?c1 ?k1 ?a2 ?l2 ?c2 ?k2 ?a3 ?l3 ?c3 ?k3 ?a4 ?l4 ?c4 ?k4 ?a5 ?l5 ?c5 ?k5 ?a6 ?l6 ?c6 ?k6 ?a7 ?l7 ?c7 ?k7 ?a8 ?l8 ?c8 ?k8 ?a9 ?l9 ?c9 ?k9 ?a10 ?l10 ?c10 ?k10 ?a11 ?l11 ?c11 ?k11 ?a12 ?l12 ?c12 ?k12 ?a13 ?l13 ?c13 ?k13 ?z_bool ?z_enumerate ?z_int ?z_isinstance ?z_len ?z_list ?z_min ?z_range ?z_set ?z_sorted ?z_str ?z_zip ?v_LONGEST_RIM ?v_NO_MARK ?v_SEEN_SIGNS ?v_UNSEEN
    (case a0 => k_is); (case l0 => k_is); (case c0 => k_is); (case k0 => k_is); (case a1 => k_is); (case l1 => k_is); (case c1 => k_is); (case k1 => k_is); (case a2 => k_is); (case l2 => k_is); (case c2 => k_is); (case k2 => k_is); (case a3 => k_is); (case l3 => k_is); (case c3 => k_is); (case k3 => k_is); (case a4 => k_is); (case l4 => k_is); (case c4 => k_is); (case k4 => k_is); (case a5 => k_is); (case l5 => k_is); (case c5 => k_is); (case k5 => k_is); (case a6 => k_is); (case l6 => k_is); (case c6 => k_is); (case k6 => k_is); (case a7 => k_is); (case l7 => k_is); (case c7 => k_is); (case k7 => k_is); (case a8 => k_is); (case l8 => k_is); (case c8 => k_is); (case k8 => k_is); (case a9 => k_is); (case l9 => k_is); (case c9 => k_is); (case k9 => k_is); (case a10 => k_is); (case l10 => k_is); (case c10 => k_is); (case k10 => k_is); (case a11 => k_is); (case l11 => k_is); (case c11 => k_is); (case k11 => k_is); (case a12 => k_is); (case l12 => k_is); (case c12 => k_is); (case k12 => k_is); (case a13 => k_is); (case l13 => k_is); (case c13 => k_is); (case k13 => k_is); (case z_bool => k_is); (case z_enumerate => k_is); (case z_int => k_is); (case z_isinstance => k_is); (case z_len => k_is); (case z_list => k_is); (case z_min => k_is); (case z_range => k_is); (case z_set => k_is); (case z_sorted => k_is); (case z_str => k_is); (case z_zip => k_is); (case v_LONGEST_RIM => k_is); (case v_NO_MARK => k_is); (case v_SEEN_SIGNS => k_is); (case v_UNSEEN => k_is)
