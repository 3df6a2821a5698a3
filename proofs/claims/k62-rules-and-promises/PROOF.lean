import PyProof.Rows.All
import Wide.All
import OpenK.AllK
import Wide.FinOn
import HandS.ForMost
import HandS.ForExc
import HandS.CallSlots
import HandS.HeadHook1
import HandS.TupAny
import HandS.TupLe
import HandS.Wide
import KE.DataEq
import PyProof.StrOps2
import HandS.IsInst
import HandS.TupLen
import HandS.Iter
import HandS.TryOnly
import HandS.TryMany
import HandS.HotCalls
import HandS.ExcIs
import HandS.Defaults
import KE.KExcIs
import KE.KSuper
import HandS.HeadHook2
import HandS.HeadNt
import HandS.Flow
import HandS.More
import KE.KOpsOwn
import HandS.Comp
import HandS.Small
import KE.KxPercentT
import HandS.Text
import HandS.FStr
import HandS.ClsMeth
import KE.KCallOwn
import KE.KIntText
import KE.IntTextText
import HandS.TupSets
import HandS.SetBool
import HandS.Strs
import HandS.IterVal
import KE.KOwnIter
import HandS.List
import HandS.Style
import HandS.OwnIter
import KE.KExcSuper
import HandS.ExcInit
import HandS.ExcSuper
import HandS.ExcField
import OpenK.KMeth
import PyProof.Rows.StrRev
import HandS.Codes
import HandS.HeadHook3
import HandS.Star
import HandS.Property
import HandS.Head0
import HandS.Head1
import HandS.Head2
import HandS.HeadEnd
import HandS.HeadWalk
import KE.KStateDown
import Lean
import PySem.Challenge.RW_promiseshapes_k62_rules_and_promises
set_option Elab.async false
set_option linter.all false
set_option maxRecDepth 100000
set_option maxHeartbeats 0
/-! PD1: data (D), what a value stands for (Rp), the slots of a body (Sl, Sat) -/
namespace PD
open PySem PySem.Spec L2

/-- plain data; nm numbers name classes, fields, the module's things -/
inductive D where
  | non | bl (b : Bool) | int (i : Int) | str (x : Str)
  | lst (xs : List D) | tup (xs : List D) | fz (xs : List D)
  | dk (ks : List Key) (vs : List D) | dt (ks : List (List Key)) (vs : List D)
  | obj (c : Nat) (ns : List Nat) (vs : List D)
  | st (x : Nat) | ty (n : String)

structure Ev where
  K : PySem.W.Frag
  nm : Nat → Str
  inj : ∀ a b, nm a = nm b → a = b
  px : Addr → Value → Option Addr → Prop
abbrev Ev.ga (e : Ev) (c : Nat) : Addr := He.ga e.K (e.nm c)
abbrev Zo := Addr → Prop

/-- a list, a tuple of the written part -/
def KL (K : PySem.W.Frag) (a : Addr) (xs : List V) : Prop :=
  ∃ (o : Obj) (its : Array Value) (n : Nat), K.lookup a = some o ∧ o.cls = .type "list" ∧ o.dict = none ∧ o.data = .seq its n ∧ its.size ≤ sizeLine ∧ Vals xs its.toList
def KT (K : PySem.W.Frag) (a : Addr) (xs : List V) : Prop :=
  ∃ (o : Obj) (its : Array Value) (n : Nat), K.lookup a = some o ∧ o.cls = .type "tuple" ∧ o.data = .seq its n ∧ its.size ≤ sizeLine ∧ Vals xs its.toList
/-- read outside of the zone Z -/
def RdZ (Z : Zo) (H : Hp) (a : Addr) (u : HO) : Prop := ¬ Z a ∧ Rd H a u
def LsZ (K : PySem.W.Frag) (Z : Zo) (H : Hp) (a : Addr) (vs : List V) : Prop := RdZ Z H a (.lst vs) ∨ KL K a vs
def TsZ (K : PySem.W.Frag) (Z : Zo) (H : Hp) (a : Addr) (vs : List V) : Prop := RdZ Z H a (.tup vs) ∨ KT K a vs
theorem LsZ.sq {K : PySem.W.Frag} {Z : Zo} {H : Hp} {a : Addr} {vs : List V} (h : LsZ K Z H a vs) : SqL K H a vs := h.imp (fun x => x.2) fun x => x
theorem TsZ.sq {K : PySem.W.Frag} {Z : Zo} {H : Hp} {a : Addr} {vs : List V} (h : TsZ K Z H a vs) : SqT K H a vs := h.imp (fun x => x.2) fun x => x

/-- an exception's object that is held -/
def ExO (e : Ev) (c : Nat) (dx : Option Addr) (a : Addr) : Prop := e.px a (.ref (e.ga c)) dx

mutual
/-- the value v stands for the data d; what is read lies outside of Z -/
def Rp (e : Ev) (Z : Zo) (H : Hp) : D → V → Prop
  | .non, v => v = .non
  | .bl b, v => v = .bl b
  | .int i, v => v = .int i
  | .str x, v => v = .str x
  | .lst ds, v => ∃ a vs, v = .ref a ∧ (¬ Z a ∧ H a = some (.lst vs)) ∧ Rps e Z H ds vs
  | .fz ds, v => ∃ a vs, v = .ref a ∧ LsZ e.K Z H a vs ∧ Rps e Z H ds vs
  | .tup ds, v => ∃ a vs, v = .ref a ∧ TsZ e.K Z H a vs ∧ Rps e Z H ds vs
  | .dk ks ds, v => ∃ a kvs, v = .ref a ∧ (¬ Z a ∧ H a = some (.dK kvs)) ∧ kvs.map (·.1) = ks ∧ Rps e Z H ds (kvs.map (·.2))
  | .dt ks ds, v => ∃ a kvs, v = .ref a ∧ (¬ Z a ∧ H a = some (.dT kvs)) ∧ kvs.map (·.1) = ks ∧ Rps e Z H ds (kvs.map (·.2))
  | .obj c ns ds, v => ∃ a dx fs, v = .ref a ∧ ¬ Z a ∧ H a = some (.ins (e.ga c) dx fs) ∧ fs.map (·.1) = ns.map e.nm ∧ Rps e Z H ds (fs.map (·.2))
  | .st x, v => v = .ref (e.ga x)
  | .ty n, v => v = .ty n
def Rps (e : Ev) (Z : Zo) (H : Hp) : List D → List V → Prop
  | [], vs => vs = []
  | d :: ds, vs => ∃ v r, vs = v :: r ∧ Rp e Z H d v ∧ Rps e Z H ds r
end

/-- from (Z, H) to (Z', H'): what stood outside of the zone stands so -/
structure Step (Z : Zo) (H : Hp) (Z' : Zo) (H' : Hp) : Prop where
  keep : ∀ a o, H a = some o → ¬ Z a → H' a = some o ∧ ¬ Z' a
  live : ∀ a, H a ≠ none → H' a ≠ none
theorem Step.refl (Z : Zo) (H : Hp) : Step Z H Z H := ⟨fun _ _ h z => ⟨h, z⟩, fun _ h => h⟩
theorem Step.trans {Z Z1 Z2 : Zo} {H H1 H2 : Hp} (s : Step Z H Z1 H1) (t : Step Z1 H1 Z2 H2) : Step Z H Z2 H2 :=
  ⟨fun a o h z => let ⟨h1, z1⟩ := s.keep a o h z; t.keep a o h1 z1, fun a h => t.live a (s.live a h)⟩
theorem Step.at_ {Z Z' : Zo} {H H' : Hp} (s : Step Z H Z' H') {a : Addr} {u : HO} (h : ¬ Z a ∧ H a = some u) : ¬ Z' a ∧ H' a = some u := ⟨(s.keep _ _ h.2 h.1).2, (s.keep _ _ h.2 h.1).1⟩
theorem Step.rd {Z Z' : Zo} {H H' : Hp} (s : Step Z H Z' H') {a : Addr} {u : HO} (h : RdZ Z H a u) : RdZ Z' H' a u := by
  obtain ⟨z, h | ⟨o, h⟩⟩ := h
  · exact ⟨(s.keep _ _ h z).2, .inl (s.keep _ _ h z).1⟩
  · exact ⟨(s.keep _ _ h z).2, .inr ⟨o, (s.keep _ _ h z).1⟩⟩

mutual
theorem Rp.step {e : Ev} {Z Z' : Zo} {H H' : Hp} (s : Step Z H Z' H') : ∀ (d : D) (v : V), Rp e Z H d v → Rp e Z' H' d v
  | .non, _, h => h
  | .bl _, _, h => h
  | .int _, _, h => h
  | .str _, _, h => h
  | .st _, _, h => h
  | .ty _, _, h => h
  | .lst ds, v, h => by
    obtain ⟨a, vs, e1, h1, h2⟩ := h
    exact ⟨a, vs, e1, s.at_ h1, Rps.step s ds vs h2⟩
  | .fz ds, v, h => by
    obtain ⟨a, vs, e1, h1, h2⟩ := h
    exact ⟨a, vs, e1, h1.imp s.rd id, Rps.step s ds vs h2⟩
  | .tup ds, v, h => by
    obtain ⟨a, vs, e1, h1, h2⟩ := h
    exact ⟨a, vs, e1, h1.imp s.rd id, Rps.step s ds vs h2⟩
  | .dk ks ds, v, h => by
    obtain ⟨a, vs, e1, h1, h2, h3⟩ := h
    exact ⟨a, vs, e1, s.at_ h1, h2, Rps.step s ds _ h3⟩
  | .dt ks ds, v, h => by
    obtain ⟨a, vs, e1, h1, h2, h3⟩ := h
    exact ⟨a, vs, e1, s.at_ h1, h2, Rps.step s ds _ h3⟩
  | .obj c ns ds, v, h => by
    obtain ⟨a, dx, fs, e1, h0, h1, h2, h3⟩ := h
    exact ⟨a, dx, fs, e1, (s.keep _ _ h1 h0).2, (s.keep _ _ h1 h0).1, h2, Rps.step s ds _ h3⟩
theorem Rps.step {e : Ev} {Z Z' : Zo} {H H' : Hp} (s : Step Z H Z' H') : ∀ (ds : List D) (vs : List V), Rps e Z H ds vs → Rps e Z' H' ds vs
  | [], _, h => h
  | d :: ds, vs, h => by
    obtain ⟨v, r, e1, h1, h2⟩ := h
    exact ⟨v, r, e1, Rp.step s d v h1, Rps.step s ds r h2⟩
end
/-- a smaller zone -/
theorem Rp.zone {e : Ev} {Z Z' : Zo} {H : Hp} {d : D} {v : V} (h : Rp e Z H d v) (hz : ∀ a, Z' a → Z a) : Rp e Z' H d v := Rp.step ⟨fun _ _ h z => ⟨h, fun y => z (hz _ y)⟩, fun _ h => h⟩ d v h
theorem Rps.zone {e : Ev} {Z Z' : Zo} {H : Hp} {d : List D} {v : List V} (h : Rps e Z H d v) (hz : ∀ a, Z' a → Z a) : Rps e Z' H d v := Rps.step ⟨fun _ _ h z => ⟨h, fun y => z (hz _ y)⟩, fun _ h => h⟩ d v h

theorem Rps.length {e : Ev} {Z : Zo} {H : Hp} : ∀ {ds : List D} {vs : List V}, Rps e Z H ds vs → vs.length = ds.length
  | [], _, h => by cases h; rfl
  | d :: ds, vs, h => by
    obtain ⟨v, r, rfl, h1, h2⟩ := h
    simp [Rps.length h2]
theorem Rps.get {e : Ev} {Z : Zo} {H : Hp} : ∀ {ds : List D} {vs : List V} {i : Nat} {d : D}, Rps e Z H ds vs → ds[i]? = some d → ∃ v, vs[i]? = some v ∧ Rp e Z H d v
  | [], _, _, _, _, e1 => by simp at e1
  | d :: ds, vs, 0, d', h, e1 => by
    obtain ⟨v, r, rfl, h1, h2⟩ := h
    simp at e1; subst e1; exact ⟨v, rfl, h1⟩
  | d :: ds, vs, i + 1, d', h, e1 => by
    obtain ⟨v, r, rfl, h1, h2⟩ := h
    simpa using Rps.get (i := i) h2 (by simpa using e1)
theorem Rps.get' {e : Ev} {Z : Zo} {H : Hp} : ∀ {ds : List D} {vs : List V} {i : Nat} {v : V}, Rps e Z H ds vs → vs[i]? = some v → ∃ d, ds[i]? = some d ∧ Rp e Z H d v
  | [], _, _, _, h, e1 => by cases h; simp at e1
  | d :: ds, vs, 0, d', h, e1 => by
    obtain ⟨v, r, rfl, h1, h2⟩ := h
    simp at e1; subst e1; exact ⟨d, rfl, h1⟩
  | d :: ds, vs, i + 1, d', h, e1 => by
    obtain ⟨v, r, rfl, h1, h2⟩ := h
    simpa using Rps.get' (i := i) h2 (by simpa using e1)
theorem Rps.append {e : Ev} {Z : Zo} {H : Hp} : ∀ {ds es : List D} {vs us : List V}, Rps e Z H ds vs → Rps e Z H es us → Rps e Z H (ds ++ es) (vs ++ us)
  | [], _, _, _, h, h' => by cases h; exact h'
  | d :: ds, _, vs, _, h, h' => by
    obtain ⟨v, r, rfl, h1, h2⟩ := h
    exact ⟨v, _, rfl, h1, Rps.append h2 h'⟩
theorem Rps.set {e : Ev} {Z : Zo} {H : Hp} {d : D} {v : V} (r : Rp e Z H d v) : ∀ {ds : List D} {vs : List V} (i : Nat), Rps e Z H ds vs → Rps e Z H (ds.set i d) (vs.set i v)
  | [], _, _, h => by cases h; rfl
  | _ :: _, _, 0, h => by
    obtain ⟨_, _, rfl, h1, h2⟩ := h
    exact ⟨_, _, rfl, r, h2⟩
  | _ :: _, _, i + 1, h => by
    obtain ⟨_, _, rfl, h1, h2⟩ := h
    exact ⟨_, _, rfl, h1, Rps.set r i h2⟩
theorem Rps.drop {e : Ev} {Z : Zo} {H : Hp} : ∀ {ds : List D} {vs : List V} (n : Nat), Rps e Z H ds vs → Rps e Z H (ds.drop n) (vs.drop n)
  | _, _, 0, h => h
  | [], _, _ + 1, h => by cases h; rfl
  | _ :: _, _, n + 1, h => by
    obtain ⟨_, _, rfl, h1, h2⟩ := h
    exact Rps.drop n h2
theorem Rps.take {e : Ev} {Z : Zo} {H : Hp} : ∀ {ds : List D} {vs : List V} (n : Nat), Rps e Z H ds vs → Rps e Z H (ds.take n) (vs.take n)
  | _, _, 0, h => rfl
  | [], _, _ + 1, h => by cases h; rfl
  | _ :: _, _, n + 1, h => by
    obtain ⟨_, _, rfl, h1, h2⟩ := h
    exact ⟨_, _, rfl, h1, Rps.take n h2⟩

/-! ### slots -/
/-- a slot: nothing known; plain data; an object of the body's own; one lent for writing, for reading -/
inductive Sl where
  | no | imm (d : D) | own (d : D) | lnd (d : D) | bor (d : D) | exn (c : Nat) (ns : List Nat) (ds : List D)

/-- an object in the zone: its contents lie outside -/
def At (e : Ev) (Z : Zo) (H : Hp) : D → Addr → Prop
  | .lst ds, a => ∃ vs, H a = some (.lst vs) ∧ Rps e Z H ds vs
  | .dk ks ds, a => ∃ kvs, H a = some (.dK kvs) ∧ kvs.map (·.1) = ks ∧ Rps e Z H ds (kvs.map (·.2))
  | .dt ks ds, a => ∃ kvs, H a = some (.dT kvs) ∧ kvs.map (·.1) = ks ∧ Rps e Z H ds (kvs.map (·.2))
  | .obj c ns ds, a => ∃ dx fs, H a = some (.ins (e.ga c) dx fs) ∧ fs.map (·.1) = ns.map e.nm ∧ Rps e Z H ds (fs.map (·.2))
  | _, _ => False
theorem At.live {e : Ev} {Z : Zo} {H : Hp} {d : D} {a : Addr} (h : At e Z H d a) : H a ≠ none := by
  cases d <;> first
    | exact h.elim
    | (obtain ⟨_, h, _⟩ := h; rw [h]; simp)
    | (obtain ⟨_, _, h, _⟩ := h; rw [h]; simp)
/-- contents that stand, and the object itself -/
theorem At.step {e : Ev} {Z Z' : Zo} {H H' : Hp} {d : D} {a : Addr} (h : At e Z H d a) (s : Step Z H Z' H') (ha : H' a = H a) : At e Z' H' d a := by
  cases d <;> first
    | exact h.elim
    | (obtain ⟨vs, h1, h2⟩ := h; exact ⟨vs, by rw [ha, h1], Rps.step s _ _ h2⟩)
    | (obtain ⟨vs, h1, h2, h3⟩ := h; exact ⟨vs, by rw [ha, h1], h2, Rps.step s _ _ h3⟩)
    | (obtain ⟨dx, fs, h1, h2, h3⟩ := h; exact ⟨dx, fs, by rw [ha, h1], h2, Rps.step s _ _ h3⟩)
/-- an object of its own becomes plain data -/
theorem At.rp {e : Ev} {Z Z' : Zo} {H : Hp} {d : D} {a : Addr} (h : At e Z H d a) (hz : ∀ b, Z' b → Z b) (ha : ¬ Z' a) : Rp e Z' H d (.ref a) := by
  cases d <;> first
    | exact h.elim
    | (obtain ⟨vs, h1, h2⟩ := h; exact ⟨a, vs, rfl, ⟨ha, h1⟩, h2.zone hz⟩)
    | (obtain ⟨vs, h1, h2, h3⟩ := h; exact ⟨a, vs, rfl, ⟨ha, h1⟩, h2, h3.zone hz⟩)
    | (obtain ⟨dx, fs, h1, h2, h3⟩ := h; exact ⟨a, dx, fs, rfl, ha, h1, h2, h3.zone hz⟩)

/-- the entry: its heap, the callers' zone, what may be written, the parameters -/
structure Pre where
  H0 : Hp
  Z0 : Zo
  Wr : Zo
  pv : List V
  Xz : Zo

/-- the zone: the callers' and one's own -/
def Zn (P : Pre) (G : List Sl) (σ : St) : Zo := fun a => P.Z0 a ∨ ∃ (i : Nat) (d : D), G[i]? = some (.own d) ∧ σ[i]? = some (some (.ref a))

/-- an exception that is held: its class, its fields -/
def ExnOk (e : Ev) (Z : Zo) (H : Hp) (c : Nat) (ns : List Nat) (ds : List D) (a : Addr) : Prop :=
  (ns = [] ∧ ds = [] ∧ ExO e c none a) ∨ ∃ dx fs, ExO e c (some dx) a ∧ (¬ Z dx ∧ H dx = some (.xd fs)) ∧ fs.map (·.1) = ns.map e.nm ∧ Rps e Z H ds (fs.map (·.2))
theorem ExnOk.step {e : Ev} {Z Z' : Zo} {H H' : Hp} {c : Nat} {ns : List Nat} {ds : List D} {a : Addr} (h : ExnOk e Z H c ns ds a) (s : Step Z H Z' H') : ExnOk e Z' H' c ns ds a := by
  rcases h with h | ⟨dx, fs, h1, h2, h3, h4⟩
  · exact .inl h
  · exact .inr ⟨dx, fs, h1, s.at_ h2, h3, Rps.step s _ _ h4⟩
def SlOk (e : Ev) (P : Pre) (Z : Zo) (H : Hp) (σ : St) (i : Nat) : Sl → Prop
  | .no => True
  | .imm d => ∃ v, σ[i]? = some (some v) ∧ Rp e Z H d v
  | .own d => ∃ a, σ[i]? = some (some (.ref a)) ∧ P.H0 a = none ∧ ¬ P.Z0 a ∧ At e Z H d a
  | .lnd d => ∃ a, σ[i]? = some (some (.ref a)) ∧ P.pv[i]? = some (.ref a) ∧ P.Wr a ∧ P.Z0 a ∧ At e Z H d a
  | .bor d => ∃ a, σ[i]? = some (some (.ref a)) ∧ P.Z0 a ∧ ¬ (P.Wr a ∨ P.Xz a) ∧ At e Z H d a
  | .exn c ns ds => ∃ a, σ[i]? = some (some (.ref a)) ∧ ExnOk e Z H c ns ds a

structure Sat (e : Ev) (P : Pre) (G : List Sl) (σ : St) (H : Hp) : Prop where
  len : G.length = σ.length
  slot : ∀ (i : Nat) (s : Sl), G[i]? = some s → SlOk e P (Zn P G σ) H σ i s
  dist : ∀ (i j : Nat) (d d' : D) (a : Addr), G[i]? = some (.own d) → G[j]? = some (.own d') → σ[i]? = some (some (.ref a)) → σ[j]? = some (some (.ref a)) → i = j
  par : ∀ (i j : Nat) (d d' : D) (a : Addr), G[i]? = some (.lnd d) → G[j]? = some (.lnd d') → σ[i]? = some (some (.ref a)) → σ[j]? = some (some (.ref a)) → i = j
  keep : ∀ a o, P.H0 a = some o → ¬ P.Wr a → H a = some o
  live : ∀ a, P.H0 a ≠ none → H a ≠ none
  z0 : ∀ a, P.Z0 a → P.H0 a ≠ none
  wz : ∀ a, P.Wr a → P.Z0 a

section
variable {e : Ev} {P : Pre} {G : List Sl} {σ : St} {H H' : Hp}
theorem Sat.imm (S : Sat e P G σ H) {i : Nat} {d : D} (h : G[i]? = some (.imm d)) : ∃ v, σ[i]? = some (some v) ∧ Rp e (Zn P G σ) H d v := S.slot i _ h
theorem Sat.zlive (S : Sat e P G σ H) {a : Addr} (z : Zn P G σ a) : H a ≠ none := by
  rcases z with z | ⟨i, d, h1, h2⟩
  · exact S.live a (S.z0 a z)
  · obtain ⟨b, h3, _, _, h4⟩ := S.slot i _ h1
    rw [h2] at h3; cases h3
    exact h4.live
/-- the heap grows -/
theorem Sat.grow (S : Sat e P G σ H) (k : ∀ a o, H a = some o → H' a = some o) : Sat e P G σ H' := by
  have st : Step (Zn P G σ) H (Zn P G σ) H' := ⟨fun a o h z => ⟨k a o h, z⟩, fun a h => by
    cases q : H a with
    | none => exact absurd q h
    | some o => rw [k a o q]; simp⟩
  have same : ∀ {d a}, At e (Zn P G σ) H d a → H' a = H a := fun {d a} h => by
    cases q : H a with
    | none => exact absurd q h.live
    | some o => rw [k a o q]
  refine ⟨S.len, fun i s h => ?_, S.dist, S.par, fun a o h w => k a o (S.keep a o h w), fun a h => st.live a (S.live a h), S.z0, S.wz⟩
  have q := S.slot i s h
  cases s with
  | no => trivial
  | imm d => obtain ⟨v, h1, h2⟩ := q; exact ⟨v, h1, Rp.step st d v h2⟩
  | own d => obtain ⟨a, h1, h2, h3, h4⟩ := q; exact ⟨a, h1, h2, h3, h4.step st (same h4)⟩
  | lnd d => obtain ⟨a, h1, h2, h3, h4, h5⟩ := q; exact ⟨a, h1, h2, h3, h4, h5.step st (same h5)⟩
  | bor d => obtain ⟨a, h1, h2, h3, h4⟩ := q; exact ⟨a, h1, h2, h3, h4.step st (same h4)⟩
  | exn c ns ds => obtain ⟨a, h1, h2⟩ := q; exact ⟨a, h1, h2.step st⟩
theorem upd_keeps {p : Addr} {o : HO} (hp : H p = none) : ∀ a u, H a = some u → upd H p o a = some u := fun a u h => by rw [upd_ne (ne_of_none h hp)]; exact h
theorem Sat.alloc (S : Sat e P G σ H) {p : Addr} {o : HO} (hp : H p = none) : Sat e P G σ (upd H p o) := S.grow (upd_keeps hp)
theorem step_grow {Z Z' : Zo} (k : ∀ a o, H a = some o → H' a = some o) (z : ∀ a, H a ≠ none → Z' a → Z a) : Step Z H Z' H' := ⟨fun a o h y => ⟨k a o h, fun y' => y (z a (by rw [h]; simp) y')⟩, fun a h => by
    cases q : H a with
    | none => exact absurd q h
    | some o => rw [k a o q]; simp⟩
end
end PD

/-! PD2: what a piece of code does to the slots (R), its reading (tD, tT, tA, tS), temps -/
namespace PD
open PySem PySem.Spec L2

inductive PV where
  | val (d : D) | fr (d : D) | sl (i : Nat)
inductive R (α : Type) where
  | ok (a : α) (G : List Sl)
  | ex (c : Nat) (ns : List Nat) (ds : List D) (G : List Sl)
  | bad
def R.bind {α β : Type} (x : R α) (k : α → List Sl → R β) : R β :=
  match x with
  | .ok a G => k a G
  | .ex c ns ds G => .ex c ns ds G
  | .bad => .bad
@[simp] theorem R.bind_ok {α β : Type} (a : α) (G : List Sl) (k : α → List Sl → R β) : (R.ok a G).bind k = k a G := rfl
@[simp] theorem R.bind_ex {α β : Type} (c : Nat) (ns : List Nat) (ds : List D) (G : List Sl) (k : α → List Sl → R β) : (R.ex c ns ds G).bind k = .ex c ns ds G := rfl
@[simp] theorem R.bind_bad {α β : Type} (k : α → List Sl → R β) : (R.bad : R α).bind k = .bad := rfl
abbrev F (α : Type) := List Sl → R α
abbrev EF := F PV
abbrev TF := F Bool
abbrev AF := F (List PV)
inductive Ctl where
  | nx | brk | ct | ret (v : PV)
abbrev SF := F Ctl

/-- an exception by its class and its own dict -/
def ExR (e : Ev) (Z : Zo) (H : Hp) (c : Nat) (ns : List Nat) (ds : List D) (cls : Value) (dx : Option Addr) : Prop :=
  cls = .ref (e.ga c) ∧ ((ns = [] ∧ ds = [] ∧ dx = none) ∨ ∃ d fs, dx = some d ∧ ¬ Z d ∧ H d = some (.xd fs) ∧ fs.map (·.1) = ns.map e.nm ∧ Rps e Z H ds (fs.map (·.2)))

section
variable (e : Ev) (W : WX) (P : Pre)
/-- the end of R: its value's wish, the exception's wish -/
def PostR {α : Type} (σ : L2.St) (Z : Zo) (H : Hp) (ok : α → List Sl → Prop) : R α → Prop
  | .ok a G1 => ok a G1
  | .ex c ns ds G1 => ∀ cls dx H1, Sat e P G1 σ H1 → Step Z H (Zn P G1 σ) H1 → ExR e (Zn P G1 σ) H1 c ns ds cls dx → W cls dx σ H1
  | .bad => False
/-- a value has come: where it stands -/
def Res (σ : L2.St) (Z : Zo) (H : Hp) : PV → List Sl → V → Hp → Prop
  | .val d, G1, v, H1 => Sat e P G1 σ H1 ∧ Step Z H (Zn P G1 σ) H1 ∧ Rp e (Zn P G1 σ) H1 d v
  | .fr d, G1, v, H1 => ∃ p, v = .ref p ∧ Sat e P (G1 ++ [.own d]) (σ ++ [some (.ref p)]) H1 ∧ Step Z H (Zn P (G1 ++ [.own d]) (σ ++ [some (.ref p)])) H1
  | .sl i, G1, v, H1 => Sat e P G1 σ H1 ∧ Step Z H (Zn P G1 σ) H1 ∧ σ[i]? = some (some v)
/-- a value that waits -/
def Tmp (σ : L2.St) (G : List Sl) (H : Hp) : PV → V → Prop
  | .val d, v => Rp e (Zn P G σ) H d v
  | .fr d, v => Rp e (Zn P G σ) H d v
  | .sl i, v => σ[i]? = some (some v)
def Tmps (σ : L2.St) (G : List Sl) (H : Hp) : List PV → List V → Prop
  | [], vs => vs = []
  | p :: ps, vs => ∃ v r, vs = v :: r ∧ Tmp e P σ G H p v ∧ Tmps σ G H ps r
end

section
variable (e : Ev) (W : WX)
def tD (f : EF) : TE := fun σ H Q => ∃ P G, Sat e P G σ H ∧ PostR e W P σ (Zn P G σ) H (fun pv G1 => ∀ v H1, Res e P σ (Zn P G σ) H pv G1 v H1 → Q v H1) (f G)
def tT (f : TF) : TT := fun σ H Q => ∃ P G, Sat e P G σ H ∧ PostR e W P σ (Zn P G σ) H (fun b G1 => ∀ H1, Sat e P G1 σ H1 → Step (Zn P G σ) H (Zn P G1 σ) H1 → Q b H1) (f G)
def tA (f : AF) : TA := fun σ H Q => ∃ P G, Sat e P G σ H ∧ PostR e W P σ (Zn P G σ) H (fun ps G1 => ∀ vs H1, Sat e P G1 σ H1 → Step (Zn P G σ) H (Zn P G1 σ) H1 → Tmps e P σ G1 H1 ps vs → Q vs H1) (f G)
end

section
variable {e : Ev} {W : WX} {P : Pre} {σ : L2.St} {G G1 G2 : List Sl} {H H1 H2 : Hp} {Z : Zo}

theorem PostR.mono {α : Type} {Z' : Zo} {H' : Hp} {ok ok' : α → List Sl → Prop} {x : R α} (h : PostR e W P σ Z H ok x) (k : ∀ a G1, ok a G1 → ok' a G1) (s : ∀ Z2 H2, Step Z' H' Z2 H2 → Step Z H Z2 H2) : PostR e W P σ Z' H' ok' x := by
  cases x with
  | ok a G1 => exact k _ _ h
  | ex c ns ds G1 => exact fun cls dx H1 S st r => h cls dx H1 S (s _ _ st) r
  | bad => exact h
theorem PostR.bind {α β : Type} {ok : β → List Sl → Prop} {x : R α} {k : α → List Sl → R β} (h : PostR e W P σ Z H ok (x.bind k)) : PostR e W P σ Z H (fun a G1 => PostR e W P σ Z H ok (k a G1)) x := by
  cases x <;> exact h

/-- own slots keep out of the callers' zone -/
theorem Sat.zn_drop {s : Sl} {o : Option V} (S : Sat e P (G ++ [s]) (σ ++ [o]) H) (hl : G.length = σ.length) : ∀ a, Zn P G σ a → Zn P (G ++ [s]) (σ ++ [o]) a := fun a z => by
  rcases z with z | ⟨i, d, h1, h2⟩
  · exact .inl z
  · refine .inr ⟨i, d, ?_, ?_⟩
    · rw [List.getElem?_append_left (List.getElem?_eq_some_iff.mp h1).1]; exact h1
    · rw [List.getElem?_append_left (List.getElem?_eq_some_iff.mp h2).1]; exact h2
theorem get_append {α : Type} {l : List α} {x y : α} {i : Nat} (h : l[i]? = some x) : (l ++ [y])[i]? = some x := by
  rw [List.getElem?_append_left (List.getElem?_eq_some_iff.mp h).1]; exact h
theorem SlOk.zone {Z' : Zo} {i : Nat} {s : Sl} (h : SlOk e P Z H σ i s) (hz : ∀ a, Z' a → Z a) : SlOk e P Z' H σ i s := by
  have st : Step Z H Z' H := ⟨fun _ _ h z => ⟨h, fun y => z (hz _ y)⟩, fun _ h => h⟩
  cases s with
  | no => trivial
  | imm d => obtain ⟨v, h1, h2⟩ := h; exact ⟨v, h1, h2.zone hz⟩
  | own d => obtain ⟨a, h1, h2, h3, h4⟩ := h; exact ⟨a, h1, h2, h3, h4.step st rfl⟩
  | lnd d => obtain ⟨a, h1, h2, h3, h4, h5⟩ := h; exact ⟨a, h1, h2, h3, h4, h5.step st rfl⟩
  | bor d => obtain ⟨a, h1, h2, h3, h4⟩ := h; exact ⟨a, h1, h2, h3, h4.step st rfl⟩
  | exn c ns ds => obtain ⟨a, h1, h2⟩ := h; exact ⟨a, h1, h2.step st⟩
/-- the waiting value at the end is dropped -/
theorem Sat.dropLast {s : Sl} {o : Option V} (S : Sat e P (G ++ [s]) (σ ++ [o]) H) : Sat e P G σ H := by
  have hl : G.length = σ.length := by have := S.len; simpa using this
  refine ⟨hl, fun i u h => ?_, fun i j d d' a h1 h2 h3 h4 => S.dist i j d d' a (get_append h1) (get_append h2) (get_append h3) (get_append h4), fun i j d d' a h1 h2 h3 h4 => S.par i j d d' a (get_append h1) (get_append h2) (get_append h3) (get_append h4), S.keep, S.live, S.z0, S.wz⟩
  have q := (S.slot i u (get_append h)).zone (S.zn_drop hl)
  have hi : i < σ.length := hl ▸ (List.getElem?_eq_some_iff.mp h).1
  cases u <;> simpa only [SlOk, List.getElem?_append_left hi] using q
theorem Sat.lastOwn {d : D} {o : Option V} (S : Sat e P (G ++ [.own d]) (σ ++ [o]) H) : ∃ p, o = some (.ref p) ∧ P.H0 p = none ∧ ¬ P.Z0 p ∧ At e (Zn P (G ++ [.own d]) (σ ++ [o])) H d p ∧ ¬ Zn P G σ p := by
  have hl : G.length = σ.length := by have := S.len; simpa using this
  obtain ⟨p, h1, h2, h3, h4⟩ := S.slot G.length (.own d) (by simp)
  have ho : o = some (.ref p) := by rw [hl] at h1; simpa using h1
  refine ⟨p, ho, h2, h3, h4, ?_⟩
  rintro (z | ⟨i, d', a1, a2⟩)
  · exact h3 z
  · have hi := (List.getElem?_eq_some_iff.mp a1).1
    have := S.dist i G.length d' d p (get_append a1) (by simp) (get_append a2) (by rw [hl, ho]; simp)
    omega
theorem Step.zone {Z Z1 Z2 : Zo} {H H1 : Hp} (s : Step Z H Z1 H1) (hz : ∀ a, Z2 a → Z1 a) : Step Z H Z2 H1 := ⟨fun a o h z => ⟨(s.keep a o h z).1, fun y => (s.keep a o h z).2 (hz a y)⟩, s.live⟩
/-- a value that has come waits -/
theorem Res.tmp {pv : PV} {v : V} (h : Res e P σ Z H pv G1 v H1) : Sat e P G1 σ H1 ∧ Step Z H (Zn P G1 σ) H1 ∧ Tmp e P σ G1 H1 pv v := by
  cases pv with
  | val d => exact h
  | sl i => exact h
  | fr d =>
    obtain ⟨p, rfl, S, st⟩ := h
    have hl : G1.length = σ.length := by have := S.len; simpa using this
    obtain ⟨p', e1, _, _, h4, h5⟩ := S.lastOwn
    cases e1
    exact ⟨S.dropLast, st.zone (S.zn_drop hl), h4.rp (S.zn_drop hl) h5⟩
theorem Tmp.step {pv : PV} {v : V} (h : Tmp e P σ G1 H1 pv v) (st : Step (Zn P G1 σ) H1 (Zn P G2 σ) H2) : Tmp e P σ G2 H2 pv v := by
  cases pv with
  | val d => exact Rp.step st d v h
  | fr d => exact Rp.step st d v h
  | sl i => exact h
theorem Tmps.step : ∀ {ps : List PV} {vs : List V}, Tmps e P σ G1 H1 ps vs → Step (Zn P G1 σ) H1 (Zn P G2 σ) H2 → Tmps e P σ G2 H2 ps vs
  | [], _, h, _ => h
  | p :: ps, _, h, st => by
    obtain ⟨v, r, rfl, h1, h2⟩ := h
    exact ⟨v, r, rfl, h1.step st, Tmps.step h2 st⟩
theorem Res.from_ {pv : PV} {v : V} {Z1 : Zo} {H0 : Hp} (s : Step Z H0 Z1 H) (h : Res e P σ Z1 H pv G1 v H1) : Res e P σ Z H0 pv G1 v H1 := by
  cases pv with
  | val d => exact ⟨h.1, s.trans h.2.1, h.2.2⟩
  | sl i => exact ⟨h.1, s.trans h.2.1, h.2.2⟩
  | fr d => obtain ⟨p, e1, S, st⟩ := h; exact ⟨p, e1, S, s.trans st⟩

/-- readings from a state within -/
theorem tD_at {f : EF} {Q : VK} (S : Sat e P G1 σ H1) (st : Step Z H (Zn P G1 σ) H1) (h : PostR e W P σ Z H (fun pv G2 => ∀ v H2, Res e P σ (Zn P G1 σ) H1 pv G2 v H2 → Q v H2) (f G1)) : tD e W f σ H1 Q :=
  ⟨P, G1, S, h.mono (fun _ _ k => k) fun _ _ s => st.trans s⟩
theorem tT_at {f : TF} {Q : Bool → Hp → Prop} (S : Sat e P G1 σ H1) (st : Step Z H (Zn P G1 σ) H1) (h : PostR e W P σ Z H (fun b G2 => ∀ H2, Sat e P G2 σ H2 → Step (Zn P G1 σ) H1 (Zn P G2 σ) H2 → Q b H2) (f G1)) : tT e W f σ H1 Q :=
  ⟨P, G1, S, h.mono (fun _ _ k => k) fun _ _ s => st.trans s⟩
theorem tA_at {f : AF} {Q : List V → Hp → Prop} (S : Sat e P G1 σ H1) (st : Step Z H (Zn P G1 σ) H1) (h : PostR e W P σ Z H (fun ps G2 => ∀ vs H2, Sat e P G2 σ H2 → Step (Zn P G1 σ) H1 (Zn P G2 σ) H2 → Tmps e P σ G2 H2 ps vs → Q vs H2) (f G1)) : tA e W f σ H1 Q :=
  ⟨P, G1, S, h.mono (fun _ _ k => k) fun _ _ s => st.trans s⟩

/-! ### reading a waiting value -/
/-- what v stands for, to be read: plain data, or an object of a slot -/
def RpB (e : Ev) (Z : Zo) (H : Hp) (d : D) (v : V) : Prop := Rp e Z H d v ∨ ∃ a, v = .ref a ∧ At e Z H d a
def peek (p : PV) (G : List Sl) : Option D :=
  match p with
  | .val d => some d
  | .fr d => some d
  | .sl i => match G[i]? with
    | some (.imm d) => some d
    | some (.own d) => some d
    | some (.lnd d) => some d
    | some (.bor d) => some d
    | _ => none
theorem peek_ok {p : PV} {d : D} {v : V} (S : Sat e P G σ H) (t : Tmp e P σ G H p v) (h : peek p G = some d) : RpB e (Zn P G σ) H d v := by
  cases p with
  | val d' => cases h; exact .inl t
  | fr d' => cases h; exact .inl t
  | sl i =>
    have t : σ[i]? = some (some v) := t
    unfold peek at h
    simp only at h
    split at h <;> cases h
    · rename_i q
      obtain ⟨u, h1, h2⟩ := S.slot _ _ q
      rw [t] at h1; cases h1; exact .inl h2
    · rename_i q
      obtain ⟨u, h1, _, _, h2⟩ := S.slot _ _ q
      rw [t] at h1; cases h1; exact .inr ⟨_, rfl, h2⟩
    · rename_i q
      obtain ⟨u, h1, _, _, _, h2⟩ := S.slot _ _ q
      rw [t] at h1; cases h1; exact .inr ⟨_, rfl, h2⟩
    · rename_i q
      obtain ⟨u, h1, _, _, h2⟩ := S.slot _ _ q
      rw [t] at h1; cases h1; exact .inr ⟨_, rfl, h2⟩
theorem RpB.int {Z : Zo} {i : Int} {v : V} (h : RpB e Z H (.int i) v) : v = .int i := h.elim id fun ⟨_, _, z⟩ => z.elim
theorem RpB.bl {Z : Zo} {i : Bool} {v : V} (h : RpB e Z H (.bl i) v) : v = .bl i := h.elim id fun ⟨_, _, z⟩ => z.elim
theorem RpB.str {Z : Zo} {i : Str} {v : V} (h : RpB e Z H (.str i) v) : v = .str i := h.elim id fun ⟨_, _, z⟩ => z.elim
theorem RpB.non {Z : Zo} {v : V} (h : RpB e Z H .non v) : v = .non := h.elim id fun ⟨_, _, z⟩ => z.elim
theorem RpB.st {Z : Zo} {x : Nat} {v : V} (h : RpB e Z H (.st x) v) : v = .ref (e.ga x) := h.elim id fun ⟨_, _, z⟩ => z.elim
theorem RpB.lst {Z : Zo} {ds : List D} {v : V} (h : RpB e Z H (.lst ds) v) : ∃ a vs, v = .ref a ∧ H a = some (.lst vs) ∧ Rps e Z H ds vs := by
  rcases h with ⟨a, vs, e1, h1, h2⟩ | ⟨a, e1, vs, h1, h2⟩
  · exact ⟨a, vs, e1, h1.2, h2⟩
  · exact ⟨a, vs, e1, h1, h2⟩
theorem RpB.fz {Z : Zo} {ds : List D} {v : V} (h : RpB e Z H (.fz ds) v) : ∃ a vs, v = .ref a ∧ SqL e.K H a vs ∧ Rps e Z H ds vs := by
  rcases h with ⟨a, vs, e1, h1, h2⟩ | ⟨a, e1, h⟩
  · exact ⟨a, vs, e1, h1.sq, h2⟩
  · exact h.elim
theorem RpB.tup {Z : Zo} {ds : List D} {v : V} (h : RpB e Z H (.tup ds) v) : ∃ a vs, v = .ref a ∧ SqT e.K H a vs ∧ Rps e Z H ds vs := by
  rcases h with ⟨a, vs, e1, h1, h2⟩ | ⟨a, e1, h⟩
  · exact ⟨a, vs, e1, h1.sq, h2⟩
  · exact h.elim
theorem RpB.dk {Z : Zo} {ks : List Key} {ds : List D} {v : V} (h : RpB e Z H (.dk ks ds) v) : ∃ a kvs, v = .ref a ∧ H a = some (.dK kvs) ∧ kvs.map (·.1) = ks ∧ Rps e Z H ds (kvs.map (·.2)) := by
  rcases h with ⟨a, vs, e1, h1, h2⟩ | ⟨a, e1, vs, h1, h2⟩
  · exact ⟨a, vs, e1, h1.2, h2⟩
  · exact ⟨a, vs, e1, h1, h2⟩
theorem RpB.dt {Z : Zo} {ks : List (List Key)} {ds : List D} {v : V} (h : RpB e Z H (.dt ks ds) v) : ∃ a kvs, v = .ref a ∧ H a = some (.dT kvs) ∧ kvs.map (·.1) = ks ∧ Rps e Z H ds (kvs.map (·.2)) := by
  rcases h with ⟨a, vs, e1, h1, h2⟩ | ⟨a, e1, vs, h1, h2⟩
  · exact ⟨a, vs, e1, h1.2, h2⟩
  · exact ⟨a, vs, e1, h1, h2⟩
theorem RpB.obj {Z : Zo} {c : Nat} {ns : List Nat} {ds : List D} {v : V} (h : RpB e Z H (.obj c ns ds) v) : ∃ a dx fs, v = .ref a ∧ H a = some (.ins (e.ga c) dx fs) ∧ fs.map (·.1) = ns.map e.nm ∧ Rps e Z H ds (fs.map (·.2)) := by
  rcases h with ⟨a, dx, fs, e1, _, h1, h2, h3⟩ | ⟨a, e1, dx, fs, h1, h2, h3⟩
  · exact ⟨a, dx, fs, e1, h1, h2, h3⟩
  · exact ⟨a, dx, fs, e1, h1, h2, h3⟩

/-- a value goes out of its slot -/
def esc (p : PV) (G : List Sl) : Option (D × List Sl) :=
  match p with
  | .val d => some (d, G)
  | .fr d => some (d, G)
  | .sl i => match G[i]? with
    | some (.imm d) => some (d, G)
    | some (.own d) => some (d, G.set i (.imm d))
    | _ => none
theorem Zn.freeze {i : Nat} {s : Sl} (hs : ∀ d, s ≠ .own d) : ∀ a, Zn P (G.set i s) σ a → Zn P G σ a := fun a z => by
  rcases z with z | ⟨j, d, h1, h2⟩
  · exact .inl z
  · by_cases hj : i = j
    · subst hj
      rw [List.getElem?_set] at h1
      split at h1
      · split at h1
        · cases h1; exact absurd rfl (hs d)
        · cases h1
      · exact .inr ⟨i, d, h1, h2⟩
    · rw [List.getElem?_set_ne hj] at h1
      exact .inr ⟨j, d, h1, h2⟩
theorem set_get {α : Type} {l : List α} {i j : Nat} {x y : α} (h : (l.set i x)[j]? = some y) : (i = j ∧ y = x ∧ i < l.length) ∨ (i ≠ j ∧ l[j]? = some y) := by
  by_cases hj : i = j
  · subst hj
    rw [List.getElem?_set] at h
    simp only [if_true] at h
    split at h
    · cases h; exact .inl ⟨rfl, rfl, by assumption⟩
    · cases h
  · rw [List.getElem?_set_ne hj] at h
    exact .inr ⟨hj, h⟩
/-- a slot forgets, or freezes -/
theorem Sat.freeze {i : Nat} {s : Sl} (S : Sat e P G σ H) (hs : ∀ d, s ≠ .own d) (hl : ∀ d, s ≠ .lnd d) (ok : SlOk e P (Zn P (G.set i s) σ) H σ i s) : Sat e P (G.set i s) σ H := by
  refine ⟨by simpa using S.len, fun j u h => ?_, fun j k d d' a h1 h2 h3 h4 => ?_, fun j k d d' a h1 h2 h3 h4 => ?_, S.keep, S.live, S.z0, S.wz⟩
  · rcases set_get h with ⟨rfl, rfl, _⟩ | ⟨hj, h⟩
    · exact ok
    · exact (S.slot j u h).zone (Zn.freeze hs)
  · rcases set_get h1 with ⟨_, e1, _⟩ | ⟨_, h1⟩
    · exact absurd e1.symm (hs d)
    · rcases set_get h2 with ⟨_, e1, _⟩ | ⟨_, h2⟩
      · exact absurd e1.symm (hs d')
      · exact S.dist j k d d' a h1 h2 h3 h4
  · rcases set_get h1 with ⟨_, e1, _⟩ | ⟨_, h1⟩
    · exact absurd e1.symm (hl d)
    · rcases set_get h2 with ⟨_, e1, _⟩ | ⟨_, h2⟩
      · exact absurd e1.symm (hl d')
      · exact S.par j k d d' a h1 h2 h3 h4
theorem esc_ok {p : PV} {d : D} {v : V} (S : Sat e P G σ H) (t : Tmp e P σ G H p v) (h : esc p G = some (d, G1)) : Sat e P G1 σ H ∧ Step (Zn P G σ) H (Zn P G1 σ) H ∧ Rp e (Zn P G1 σ) H d v := by
  cases p with
  | val d' => cases h; exact ⟨S, Step.refl _ _, t⟩
  | fr d' => cases h; exact ⟨S, Step.refl _ _, t⟩
  | sl i =>
    have t : σ[i]? = some (some v) := t
    unfold esc at h
    simp only at h
    split at h <;> cases h
    · rename_i q
      obtain ⟨u, h1, h2⟩ := S.slot _ _ q
      rw [t] at h1; cases h1; exact ⟨S, Step.refl _ _, h2⟩
    · rename_i q
      obtain ⟨a, h1, h2, h3, h4⟩ := S.slot _ _ q
      have hs : ∀ d', (Sl.imm d) ≠ .own d' := fun _ z => by cases z
      have hz := Zn.freeze (P := P) (G := G) (σ := σ) (i := i) hs
      rw [t] at h1; cases h1
      have hn : ¬ Zn P (G.set i (.imm d)) σ a := by
        rintro (z | ⟨j, d', a1, a2⟩)
        · exact h3 z
        · rcases set_get a1 with ⟨_, e1, _⟩ | ⟨hj, a1⟩
          · cases e1
          · exact hj (S.dist j i d' d a a1 q a2 t).symm
      have rp := h4.rp hz hn
      exact ⟨S.freeze hs (fun _ z => by cases z) ⟨_, t, rp⟩, (Step.refl _ _).zone hz, rp⟩
end
end PD

/-! PD3: expressions -/
namespace PD
open PySem PySem.Spec L2

section
variable {e : Ev} {W : WX} {P : Pre} {σ : L2.St} {G G1 G2 : List Sl} {H H1 H2 : Hp} {Z : Zo}
theorem _root_.L2.PE.imp {X : Cx} {ex : Expr} {t t' : TE} (h : PE X ex t) (k : ∀ σ H Q, t' σ H Q → t σ H Q) : PE X ex t' := ⟨fun pins s σ H Q I q => h.run pins s σ H Q I (k _ _ _ q)⟩
theorem _root_.L2.PT.imp {X : Cx} {ex : Expr} {t t' : TT} (h : PT X ex t) (k : ∀ σ H Q, t' σ H Q → t σ H Q) : PT X ex t' := ⟨fun pins s σ H Q I q => h.run pins s σ H Q I (k _ _ _ q)⟩
theorem _root_.L2.PA.imp {X : Cx} {ex : List Expr} {t t' : TA} (h : PA X ex t) (k : ∀ σ H Q, t' σ H Q → t σ H Q) : PA X ex t' := ⟨fun pos pins s σ H Q I q => h.run pos pins s σ H Q I (k _ _ _ q)⟩
theorem _root_.L2.PW.imp {X : Cx} {ex : Expr} {t t' : TT} (h : PW X ex t) (k : ∀ σ H Q, t' σ H Q → t σ H Q) : PW X ex t' := ⟨fun wh pins s σ H Q I q => h.run wh pins s σ H Q I (k _ _ _ q)⟩

/-! ### what one operation leaves -/
def Grow (H H1 : Hp) : Prop := ∀ a o, H a = some o → H1 a = some o
theorem Grow.refl (H : Hp) : Grow H H := fun _ _ h => h
def Out (e : Ev) (Z : Zo) (H : Hp) : PV → V → Hp → Prop
  | .val d, v, H1 => Grow H H1 ∧ Rp e Z H1 d v
  | .fr d, v, H1 => ∃ p, v = .ref p ∧ H p = none ∧ Grow H H1 ∧ At e (fun a => Z a ∨ a = p) H1 d p
  | .sl _, _, _ => False
theorem Sat.push (S : Sat e P G σ H) (k : Grow H H1) {p : Addr} (hp : H p = none) {d : D} (hA : At e (fun a => Zn P G σ a ∨ a = p) H1 d p) : Sat e P (G ++ [.own d]) (σ ++ [some (.ref p)]) H1 := by
  have hz : ∀ a, Zn P (G ++ [.own d]) (σ ++ [some (.ref p)]) a → Zn P G σ a ∨ a = p := fun a z => by
    rcases z with z | ⟨i, d', h1, h2⟩
    · exact .inl (.inl z)
    · by_cases hi : i < G.length
      · rw [List.getElem?_append_left hi] at h1
        rw [List.getElem?_append_left (S.len ▸ hi)] at h2
        exact .inl (.inr ⟨i, d', h1, h2⟩)
      · have hi2 : i = G.length := by
          have := (List.getElem?_eq_some_iff.mp h1).1
          simp at this; omega
        subst hi2
        rw [S.len] at h2
        simp at h2
        exact .inr h2.symm
  have st : Step (Zn P G σ) H (Zn P (G ++ [.own d]) (σ ++ [some (.ref p)])) H1 := ⟨fun a o h z => ⟨k a o h, fun y => (hz a y).elim z fun q => by subst q; rw [hp] at h; cases h⟩, fun a h => by
    cases q : H a with
    | none => exact absurd q h
    | some o => rw [k a o q]; simp⟩
  have np : P.H0 p = none := by
    cases q : P.H0 p with
    | none => rfl
    | some o => exact absurd hp (S.live p (by rw [q]; simp))
  have same : ∀ {d a}, At e (Zn P G σ) H d a → H1 a = H a := fun {d a} h => by
    cases q : H a with
    | none => exact absurd q h.live
    | some o => rw [k a o q]
  have lnd_old : ∀ {i : Nat} {d' : D}, (G ++ [Sl.own d])[i]? = some (.lnd d') → i < G.length ∧ G[i]? = some (.lnd d') := fun {i d'} h1 => by
    by_cases hi : i < G.length
    · rw [List.getElem?_append_left hi] at h1
      exact ⟨hi, h1⟩
    · have hi2 : i = G.length := by
        have := (List.getElem?_eq_some_iff.mp h1).1
        simp at this; omega
      subst hi2
      simp at h1
  refine ⟨by simpa using S.len, fun i s h' => ?_, fun i j d1 d2 a h1 h2 h3 h4 => ?_, fun i j d1 d2 a h1 h2 h3 h4 => ?_, fun a o h w => k a o (S.keep a o h w), fun a h => st.live a (S.live a h), S.z0, S.wz⟩
  · by_cases hi : i < G.length
    · rw [List.getElem?_append_left hi] at h'
      have q := S.slot i s h'
      have hs : i < σ.length := S.len ▸ hi
      cases s with
      | no => trivial
      | imm d => obtain ⟨v, h1, h2⟩ := q; exact ⟨v, get_append h1, Rp.step st d v h2⟩
      | own d => obtain ⟨a, h1, h2, h3, h4⟩ := q; exact ⟨a, get_append h1, h2, h3, h4.step st (same h4)⟩
      | lnd d => obtain ⟨a, h1, h2, h3, h4, h5⟩ := q; exact ⟨a, get_append h1, h2, h3, h4, h5.step st (same h5)⟩
      | bor d => obtain ⟨a, h1, h2, h3, h4⟩ := q; exact ⟨a, get_append h1, h2, h3, h4.step st (same h4)⟩
      | exn c ns ds => obtain ⟨a, h1, h2⟩ := q; exact ⟨a, get_append h1, h2.step st⟩
    · have hi2 : i = G.length := by
        have := (List.getElem?_eq_some_iff.mp h').1
        simp at this; omega
      subst hi2
      simp at h'
      subst h'
      refine ⟨p, by rw [S.len]; simp, np, fun z => absurd hp (S.live p (S.z0 p z)), ?_⟩
      exact hA.step ⟨fun a o h z => ⟨h, fun y => z (hz a y)⟩, fun _ h => h⟩ rfl
  · have own_old : ∀ {i : Nat} {d' : D}, (G ++ [Sl.own d])[i]? = some (.own d') → (σ ++ [some (V.ref p)])[i]? = some (some (.ref a)) → (i < G.length ∧ G[i]? = some (.own d') ∧ σ[i]? = some (some (.ref a)) ∧ a ≠ p) ∨ (i = G.length ∧ a = p) := fun {i d'} h1 h3 => by
      by_cases hi : i < G.length
      · rw [List.getElem?_append_left hi] at h1
        rw [List.getElem?_append_left (S.len ▸ hi)] at h3
        refine .inl ⟨hi, h1, h3, ?_⟩
        obtain ⟨b, q1, _, _, q2⟩ := S.slot i _ h1
        rw [h3] at q1
        have eb : a = b := by simpa using q1
        exact fun ea => q2.live (by rw [← eb, ea]; exact hp)
      · have hi2 : i = G.length := by
          have := (List.getElem?_eq_some_iff.mp h1).1
          simp at this; omega
        subst hi2
        rw [S.len] at h3
        simp at h3
        exact .inr ⟨rfl, h3.symm⟩
    rcases own_old h1 h3 with ⟨_, a1, a2, a3⟩ | ⟨a1, a2⟩
    · rcases own_old h2 h4 with ⟨_, b1, b2, b3⟩ | ⟨b1, b2⟩
      · exact S.dist i j d1 d2 a a1 b1 a2 b2
      · exact absurd b2 a3
    · rcases own_old h2 h4 with ⟨_, b1, b2, b3⟩ | ⟨b1, b2⟩
      · exact absurd a2 b3
      · omega
  · obtain ⟨l1, g1⟩ := lnd_old h1
    obtain ⟨l2, g2⟩ := lnd_old h2
    rw [List.getElem?_append_left (S.len ▸ l1)] at h3
    rw [List.getElem?_append_left (S.len ▸ l2)] at h4
    exact S.par i j d1 d2 a g1 g2 h3 h4
theorem step_of_grow (S : Sat e P G σ H) (k : Grow H H1) : Step (Zn P G σ) H (Zn P G σ) H1 := step_grow k fun _ _ z => z
theorem Out.res {r : PV} {v : V} (S : Sat e P G σ H) (o : Out e (Zn P G σ) H r v H1) : Res e P σ (Zn P G σ) H r G v H1 := by
  cases r with
  | val d => exact ⟨S.grow o.1, step_of_grow S o.1, o.2⟩
  | sl i => exact o.elim
  | fr d =>
    obtain ⟨p, rfl, hp, k, h⟩ := o
    have S1 := S.push k hp h
    refine ⟨p, rfl, S1, step_grow k fun a ha z => ?_⟩
    rcases z with z | ⟨i, d', h1, h2⟩
    · exact .inl z
    · by_cases hi : i < G.length
      · rw [List.getElem?_append_left hi] at h1
        rw [List.getElem?_append_left (S.len ▸ hi)] at h2
        exact .inr ⟨i, d', h1, h2⟩
      · have hi2 : i = G.length := by
          have := (List.getElem?_eq_some_iff.mp h1).1
          simp at this; omega
        subst hi2
        rw [S.len] at h2
        simp at h2
        subst h2
        exact absurd hp ha
theorem Out.scal {d : D} {v : V} (h : ∀ Z H, Rp e Z H d v) : Out e Z H (.val d) v H := ⟨Grow.refl H, h _ _⟩
/-- a new object of plain contents -/
theorem Out.new {d : D} {p : Addr} {o : HO} (hp : H p = none) (h : At e (fun a => Z a ∨ a = p) (upd H p o) d p) : Out e Z H (.fr d) (.ref p) (upd H p o) := ⟨p, rfl, hp, upd_keeps hp, h⟩
/-- what stood outside of the zone stands outside of the zone with a new address -/
theorem step_new {p : Addr} {o : HO} (hp : H p = none) : Step Z H (fun a => Z a ∨ a = p) (upd H p o) := ⟨fun a u h z => ⟨upd_keeps hp a u h, fun y => y.elim z fun q => by subst q; rw [hp] at h; cases h⟩, fun a h => by
    cases q : H a with
    | none => exact absurd q h
    | some u => rw [upd_keeps hp a u q]; simp⟩
theorem Out.newL {ds : List D} {vs : List V} {p : Addr} (hp : H p = none) (h : Rps e Z H ds vs) : Out e Z H (.fr (.lst ds)) (.ref p) (upd H p (.lst vs)) := Out.new hp ⟨vs, upd_same, Rps.step (step_new hp) ds vs h⟩
theorem step_upd {p : Addr} {o : HO} (hp : H p = none) : Step Z H Z (upd H p o) := step_grow (upd_keeps hp) fun _ _ z => z
theorem Out.newT {ds : List D} {vs : List V} {p : Addr} (zl : ∀ a, Z a → H a ≠ none) (hp : H p = none) (h : Rps e Z H ds vs) : Out e Z H (.val (.tup ds)) (.ref p) (upd H p (.tup vs)) :=
  ⟨upd_keeps hp, p, vs, rfl, .inl ⟨fun z => zl p z hp, .inl upd_same⟩, Rps.step (step_upd hp) ds vs h⟩

/-! ### names, constants -/
def cVar (i : Nat) : EF := fun G => match G[i]? with
  | some (.imm d) => .ok (.val d) G
  | some (.own _) => .ok (.sl i) G
  | some (.lnd _) => .ok (.sl i) G
  | some (.bor _) => .ok (.sl i) G
  | some (.exn _ _ _) => .ok (.sl i) G
  | _ => .bad
def cC (d : D) : EF := fun G => .ok (.val d) G
theorem tD_var {i : Nat} {Q : VK} (h : tD e W (cVar i) σ H Q) : tVar i σ H Q := by
  obtain ⟨P, G, S, h⟩ := h
  unfold cVar at h
  split at h <;> rename_i q
  · obtain ⟨v, h1, h2⟩ := S.slot _ _ q
    exact ⟨v, h1, h v H ⟨S, Step.refl _ _, h2⟩⟩
  · obtain ⟨v, h1, _⟩ := S.slot _ _ q
    exact ⟨_, h1, h _ H ⟨S, Step.refl _ _, h1⟩⟩
  · obtain ⟨v, h1, _⟩ := S.slot _ _ q
    exact ⟨_, h1, h _ H ⟨S, Step.refl _ _, h1⟩⟩
  · obtain ⟨v, h1, _⟩ := S.slot _ _ q
    exact ⟨_, h1, h _ H ⟨S, Step.refl _ _, h1⟩⟩
  · obtain ⟨v, h1, _⟩ := S.slot _ _ q
    exact ⟨_, h1, h _ H ⟨S, Step.refl _ _, h1⟩⟩
  · exact h.elim
theorem tD_c {d : D} {v : V} {Q : VK} (hd : ∀ Z H, Rp e Z H d v) (h : tD e W (cC d) σ H Q) : tC v σ H Q := by
  obtain ⟨P, G, S, h⟩ := h
  exact h v H ⟨S, Step.refl _ _, hd _ _⟩
section
variable {X : Cx} {a b c : Expr} {fa fb fc : EF} {pos : Pos}
theorem dv (i : Nat) {x : Str} {pos : Pos} (hN : X.N[i]? = some x := by rfl) (hv : Vis X.env.scope x := by first | exact Or.inl rfl | exact Or.inr (Or.inl rfl) | exact Or.inr (Or.inr rfl)) (hd : (x == ("__debug__" : Str)) = false := by decide)
    (hcd : (x == ("__classdict__" : Str)) = false := by decide) : PE X (.Name x pos) (tD e W (cVar i)) := (pe_var hN hv hd hcd).imp fun _ _ _ => tD_var
theorem de_int {i : Int} {j : Nat} {pos : Pos} : PE X (.Constant (.int i) j pos) (tD e W (cC (.int i))) := pe_int.imp fun _ _ _ => tD_c fun _ _ => rfl
theorem de_bl {b : Bool} {j : Nat} {pos : Pos} : PE X (.Constant (.bool b) j pos) (tD e W (cC (.bl b))) := pe_bl.imp fun _ _ _ => tD_c fun _ _ => rfl
theorem de_non {j : Nat} {pos : Pos} : PE X (.Constant .none j pos) (tD e W (cC .non)) := pe_non.imp fun _ _ _ => tD_c fun _ _ => rfl
theorem de_str {x : Str} {j : Nat} {pos : Pos} : PE X (.Constant (.str x) j pos) (tD e W (cC (.str x))) := pe_str.imp fun _ _ _ => tD_c fun _ _ => rfl
theorem de_glob {x : Str} {v : V} {u : Value} {d : D} {pos : Pos} (hg : Gl X x) (hm : X.mg x = some u) (r : RelV v u) (hr : ∀ Z H, Rp e Z H d v) (hd : (x == ("__debug__" : Str)) = false := by decide) : PE X (.Name x pos) (tD e W (cC d)) := (pe_glob hg hm r hd).imp fun _ _ _ => tD_c hr

/-! ### two operands -/
def fin2 (k : D → D → Option PV) (a b : PV) (G : List Sl) : R PV := match peek a G, peek b G with
  | some d1, some d2 => (match k d1 d2 with
    | some (.val d) => .ok (.val d) G
    | some (.fr d) => .ok (.fr d) G
    | _ => .bad)
  | _, _ => .bad
def cBin (k : D → D → Option PV) (fa fb : EF) : EF := fun G => (fa G).bind fun a G1 => (fb G1).bind fun b G2 => fin2 k a b G2
def rK2 (e : Ev) (k : D → D → Option PV) : R2 := fun x y H Q => ∃ Z d1 d2 r, (∀ a, Z a → H a ≠ none) ∧ RpB e Z H d1 x ∧ RpB e Z H d2 y ∧ k d1 d2 = some r ∧ ∀ v H1, Out e Z H r v H1 → Q v H1
theorem fin2_ok {k : D → D → Option PV} {a b : PV} {v u : V} {Q : VK} {Z0 : Zo} {H0 : Hp} (S : Sat e P G σ H) (ta : Tmp e P σ G H a v) (tb : Tmp e P σ G H b u)
    (h : PostR e W P σ Z0 H0 (fun pv G2 => ∀ v H2, Res e P σ (Zn P G σ) H pv G2 v H2 → Q v H2) (fin2 k a b G)) : rK2 e k v u H Q := by
  unfold fin2 at h
  split at h
  · rename_i d1 d2 p1 p2
    have r1 := peek_ok S ta p1
    have r2 := peek_ok S tb p2
    split at h
    · rename_i d q
      exact ⟨_, d1, d2, _, fun a z => S.zlive z, r1, r2, q, fun v H1 o => h v H1 (o.res S)⟩
    · rename_i d q
      exact ⟨_, d1, d2, _, fun a z => S.zlive z, r1, r2, q, fun v H1 o => h v H1 (o.res S)⟩
    · exact h.elim
  · exact h.elim
/-- two expressions in a row -/
theorem tD_two {fa fb : EF} {k : PV → PV → List Sl → R PV} {Q : VK} {R : V → V → Hp → Prop} (h : tD e W (fun G => (fa G).bind fun a G1 => (fb G1).bind fun b G2 => k a b G2) σ H Q)
    (hk : ∀ P G Z0 H0 H a b v u, Sat e P G σ H → Tmp e P σ G H a v → Tmp e P σ G H b u → Step Z0 H0 (Zn P G σ) H → PostR e W P σ Z0 H0 (fun pv G2 => ∀ v H2, Res e P σ Z0 H0 pv G2 v H2 → Q v H2) (k a b G) → R v u H) :
    tD e W fa σ H fun x H1 => tD e W fb σ H1 fun y H2 => R x y H2 := by
  obtain ⟨P, G, S, h⟩ := h
  refine tD_at S (Step.refl _ _) (h.bind.mono (fun a G1 h v H1 r1 => ?_) fun _ _ s => s)
  obtain ⟨S1, st1, t1⟩ := r1.tmp
  refine tD_at S1 st1 (h.bind.mono (fun b G2 h u H2 r2 => ?_) fun _ _ s => s)
  obtain ⟨S2, st2, t2⟩ := r2.tmp
  exact hk P G2 _ _ H2 a b v u S2 (t1.step st2) t2 (st1.trans st2) h
theorem tD_bin {k : D → D → Option PV} {Q : VK} (h : tD e W (cBin k fa fb) σ H Q) : tOp (rK2 e k) (tD e W fa) (tD e W fb) σ H Q :=
  tD_two h fun P G Z0 H0 H a b v u S ta tb st q => fin2_ok S ta tb (q.mono (fun _ _ k v H2 r => k v H2 (r.from_ st)) fun _ _ s => s)
theorem de_bin {op : Operator} {k : D → D → Option PV} (ho : OpR X (binaryOp op) (rK2 e k)) (ha : PE X a (tD e W fa)) (hb : PE X b (tD e W fb)) : PE X (.BinOp a op b pos) (tD e W (cBin k fa fb)) := (pe_op ho ha hb).imp fun _ _ _ => tD_bin
theorem de_cmp {op : CmpOp} {k : D → D → Option PV} (ho : OpR X (compareOp op) (rK2 e k)) (ha : PE X a (tD e W fa)) (hb : PE X b (tD e W fb)) (hm : behindInMarks op b = false) : PE X (.Compare a [op] [b] pos) (tD e W (cBin k fa fb)) := (pe_cmpR ho ha hb hm).imp fun _ _ _ => tD_bin
/-- a test by a comparison -/
def cTB (f : EF) : TF := fun G => (f G).bind fun pv G1 => match pv with
  | .val (.bl b) => .ok b G1
  | _ => .bad
theorem dt_cmp {op : CmpOp} {k : D → D → Option PV} (ho : OpR X (compareOp op) (rK2 e k)) (ha : PE X a (tD e W fa)) (hb : PE X b (tD e W fb)) (hm : behindInMarks op b = false) : PT X (.Compare a [op] [b] pos) (tT e W (cTB (cBin k fa fb))) := by
  refine (pt_cmpR ho ha hb hm).imp fun σ H Q h => ?_
  show tOp (rK2 e k) (tD e W fa) (tD e W fb) σ H _
  obtain ⟨P, G, S, h⟩ := h
  refine tD_bin ⟨P, G, S, h.bind.mono (fun pv G1 h v H1 r => ?_) fun _ _ s => s⟩
  split at h
  · obtain ⟨S1, st1, rfl⟩ := r
    exact ⟨_, rfl, h H1 S1 st1⟩
  · exact h.elim
/-- an expression's truth -/
def tru : D → Option Bool
  | .non => some false
  | .bl b => some b
  | .int i => some (i != 0)
  | .str x => if x.length ≤ sizeLine then some (x.length != 0) else none
  | .lst ds => some (!ds.isEmpty)
  | .tup ds => some (!ds.isEmpty)
  | .dk ks _ => some (!ks.isEmpty)
  | _ => none
def cTT (f : EF) : TF := fun G => (f G).bind fun pv G1 => match peek pv G1 with
  | some d => (match tru d with
    | some b => .ok b G1
    | none => .bad)
  | none => .bad
theorem tru_ok {d : D} {v : V} {b : Bool} (r : RpB e Z H d v) (h : tru d = some b) : TruV e.K v H b := by
  cases d with
  | non => cases r.non; cases h; rfl
  | bl b => cases r.bl; cases h; rfl
  | int i => cases r.int; cases h; rfl
  | str x =>
    cases r.str
    simp only [tru] at h
    split at h
    · cases h
      refine ⟨by assumption, ?_⟩
      rw [Bool.eq_iff_iff]; simp
    · cases h
  | lst ds =>
    obtain ⟨a, vs, rfl, h1, h2⟩ := r.lst
    cases h
    refine .inl ⟨vs, SqL.of h1, ?_⟩
    have := h2.length
    cases vs <;> cases ds <;> simp_all
  | tup ds =>
    obtain ⟨a, vs, rfl, h1, h2⟩ := r.tup
    cases h
    refine .inr (.inl ⟨vs, h1, ?_⟩)
    have := h2.length
    cases vs <;> cases ds <;> simp_all
  | dk ks ds =>
    obtain ⟨a, vs, rfl, h1, h2, h3⟩ := r.dk
    cases h
    refine .inr (.inr ⟨vs, h1, ?_⟩)
    subst h2
    cases vs <;> simp
  | _ => cases h
theorem dt_tru (hk : X.K = e.K) (ha : PE X a (tD e W fa)) (he : ∀ whole, isTrue a X.env whole = (do let v ← whole; standAt a.pos; holding [v] (truthy v)) := by intro _; rfl) : PT X a (tT e W (cTT fa)) := by
  refine (pt_truth ha he).imp fun σ H Q h => ?_
  obtain ⟨P, G, S, h⟩ := h
  refine tD_at S (Step.refl _ _) (h.bind.mono (fun pv G1 h v H1 r => ?_) fun _ _ s => s)
  obtain ⟨S1, st1, t1⟩ := r.tmp
  split at h
  · rename_i d p
    split at h
    · rename_i b q
      refine ⟨b, ?_, h H1 S1 st1⟩
      rw [hk]; exact tru_ok (peek_ok S1 t1 p) q
    · exact h.elim
  · exact h.elim
end
end
end PD

/-! PD4: operators by data -/
namespace PD
open PySem PySem.Spec L2 PySem.SeqAt

section
variable {e : Ev} {X : Cx}
/-- a rule of the layer serves a table of data -/
theorem opK {f : Value → Value → Sem Value} {k : D → D → Option PV}
    (h : ∀ (pins : List (Addr × Obj)) (s : Shared) (σ : L2.St) (H : Hp) (x y : V) (v u : Value) (Q : VK) (Z : Zo) (d1 d2 : D) (r : PV), Inv X pins σ H s → RelV x v → RelV y u → (∀ a, Z a → H a ≠ none) → RpB e Z H d1 x → RpB e Z H d2 y → k d1 d2 = some r → (∀ v H1, Out e Z H r v H1 → Q v H1) →
      wpAny (model X.prog X.w) X.A (f v u) (EP X pins σ Q) X.xe s) : OpR X f (rK2 e k) := by
  intro pins s σ H x y v u Q I rx ry hq
  obtain ⟨Z, d1, d2, r, zl, r1, r2, hk, q⟩ := hq
  exact h pins s σ H x y v u Q Z d1 d2 r I rx ry zl r1 r2 hk q

def kAdd : D → D → Option PV
  | .int i, .int j => some (.val (.int (i + j)))
  | .str x, .str y => if x.length + y.length ≤ sizeLine then some (.val (.str (x ++ y))) else none
  | .lst xs, .lst ys => if xs.length + ys.length ≤ sizeLine then some (.fr (.lst (xs ++ ys))) else none
  | .tup xs, .tup ys => if xs.length + ys.length ≤ sizeLine then some (.val (.tup (xs ++ ys))) else none
  | _, _ => none
theorem oAdd (hk : X.K = e.K) : OpR X (binaryOp .Add) (rK2 e kAdd) := by
  refine opK fun pins s σ H x y v u Q Z d1 d2 r I rx ry zl r1 r2 h q => ?_
  unfold kAdd at h
  split at h
  · cases r1.int; cases r2.int; cases h
    exact op_add pins s σ H _ _ v u Q I rx ry ⟨_, _, rfl, rfl, q _ _ (Out.scal fun _ _ => rfl)⟩
  · cases r1.str; cases r2.str
    split at h
    · cases h
      exact op_add_str pins s σ H _ _ v u Q I rx ry ⟨_, _, rfl, rfl, by assumption, q _ _ (Out.scal fun _ _ => rfl)⟩
    · cases h
  · obtain ⟨a, vs, rfl, h1, h2⟩ := r1.lst
    obtain ⟨b, us, rfl, h3, h4⟩ := r2.lst
    split at h
    · cases h
      exact op_cat pins s σ H _ _ v u Q I rx ry ⟨a, b, _, _, rfl, rfl, h1, h3, by rw [h2.length, h4.length]; assumption, fun p hp => q _ _ (Out.newL hp (h2.append h4))⟩
    · cases h
  · obtain ⟨a, vs, rfl, h1, h2⟩ := r1.tup
    obtain ⟨b, us, rfl, h3, h4⟩ := r2.tup
    split at h
    · cases h
      refine op_catA pins s σ H _ _ v u Q I rx ry ⟨a, b, vs, us, rfl, rfl, by rw [hk]; exact h1, by rw [hk]; exact h3, by rw [h2.length, h4.length]; assumption, fun e0 => ?_, fun _ e0 => ?_, fun _ _ p hp => q _ _ (Out.newT zl hp (h2.append h4))⟩
      · subst e0
        have e1 := h2.length
        have e2 : (_ : List D) = [] := List.length_eq_zero_iff.mp e1.symm
        subst e2
        refine q _ _ ⟨Grow.refl H, ?_⟩
        exact r2.elim id fun ⟨_, _, z⟩ => z.elim
      · subst e0
        have e1 := h4.length
        have e2 : (_ : List D) = [] := List.length_eq_zero_iff.mp e1.symm
        subst e2
        refine q _ _ ⟨Grow.refl H, ?_⟩
        rw [List.append_nil]
        exact r1.elim id fun ⟨_, _, z⟩ => z.elim
    · cases h
  · cases h
/-- two ints -/
def kInt (c : Int → Int → Option Int) : D → D → Option PV
  | .int i, .int j => (c i j).map fun n => .val (.int n)
  | _, _ => none
theorem oInt {f : Value → Value → Sem Value} {c : Int → Int → Option Int} {C : Int → Int → Prop} {g : Int → Int → V} (h : OpR X f (rI C g)) (hc : ∀ i j n, c i j = some n → C i j ∧ g i j = .int n) : OpR X f (rK2 e (kInt c)) := by
  refine opK fun pins s σ H x y v u Q Z d1 d2 r I rx ry zl r1 r2 hk q => ?_
  unfold kInt at hk
  split at hk
  · cases r1.int; cases r2.int
    rename_i i j
    cases q1 : c i j with
    | none => rw [q1] at hk; cases hk
    | some n =>
      rw [q1] at hk; cases hk
      obtain ⟨h1, h2⟩ := hc i j n q1
      exact h pins s σ H _ _ v u Q I rx ry ⟨_, _, rfl, rfl, h1, q _ _ (h2 ▸ Out.scal fun _ _ => rfl)⟩
  · cases hk
theorem rI0_rI {f : Value → Value → Sem Value} {g : Int → Int → V} (h : OpR X f (rI0 g)) : OpR X f (rI (fun _ _ => True) g) := fun pins s σ H x y v u Q I rx ry ⟨i, j, e1, e2, _, q⟩ => h pins s σ H x y v u Q I rx ry ⟨i, j, e1, e2, q⟩
def kSub := kInt fun i j => some (i - j)
theorem oSub : OpR X (binaryOp .Sub) (rK2 e kSub) := oInt (rI0_rI op_sub) fun i j n h => by cases h; exact ⟨trivial, rfl⟩
/-- one factor below 2 ^ 64; a text, a list repeated -/
def repS (x : Str) (k : Int) : Str := ⟨((List.replicate k.toNat x.cps.toList).flatten).toArray⟩
def kMul : D → D → Option PV
  | .int i, .int j => if i.natAbs < 2 ^ 64 ∨ j.natAbs < 2 ^ 64 then some (.val (.int (i * j))) else none
  | .str x, .int k => if 0 ≤ k ∧ k.natAbs < 1000000 ∧ x.length * k.toNat ≤ 16777216 then some (.val (.str (repS x k))) else none
  | .lst xs, .int k => if 0 ≤ k ∧ k.natAbs < 1000000 ∧ xs.length * k.toNat ≤ 16777216 then some (.fr (.lst (List.replicate k.toNat xs).flatten)) else none
  | _, _ => none
theorem Rps.rep {Z : Zo} {H : Hp} {ds : List D} {vs : List V} (h : Rps e Z H ds vs) : ∀ n : Nat, Rps e Z H (List.replicate n ds).flatten (List.replicate n vs).flatten
  | 0 => rfl
  | n + 1 => by
    rw [List.replicate_succ, List.replicate_succ, List.flatten_cons, List.flatten_cons]
    exact h.append (Rps.rep h n)
theorem foldl_app (x : Array Nat) : ∀ (n : Nat) (a : Array Nat), ((List.replicate n x).foldl (· ++ ·) a).toList = a.toList ++ (List.replicate n x.toList).flatten
  | 0, a => by simp
  | n + 1, a => by
    rw [List.replicate_succ, List.foldl_cons, foldl_app x n, List.replicate_succ, List.flatten_cons]
    simp
theorem repS_len {x : Str} {k : Int} : (repS x k).length = k.toNat * x.length := by
  show ((List.replicate k.toNat x.cps.toList).flatten).toArray.size = _
  rw [List.size_toArray, List.length_flatten, List.map_replicate, List.sum_replicate_nat]
  rfl
theorem oMulS {x : Str} {k : Int} {pins : List (Addr × Obj)} {s : Shared} {σ : L2.St} {H : Hp} {t u : Tok} {Q : VK} (I : Inv X pins σ H s) (h0 : 0 ≤ k) (h1 : k.natAbs < 1000000) (h2 : x.length * k.toNat ≤ 16777216) (q : Q (.str (repS x k)) H) :
    wpAny (model X.prog X.w) X.A (binaryOp .Mult (.str x t) (.int k u)) (EP X pins σ Q) X.xe s := by
  have e63 : (2 : Int) ^ 63 = 9223372036854775808 := rfl
  have fin : ∀ z : Str, z = repS x k → (∀ t', EP X pins σ Q (.str z t') { s with toks := s.toks + 1 }) ∧ ∀ t', EP X pins σ Q (.str z t') s := fun z e => by
    subst e
    exact ⟨fun t' => ⟨.str _, H, I.tok _, ⟨_, rfl⟩, q⟩, fun t' => ⟨.str _, H, I, ⟨_, rfl⟩, q⟩⟩
  refine PySem.P.mul_str ?_ (fun _ _ => ?_) (fun _ _ => ?_) ?_
  · rw [decide_eq_false (by omega), decide_eq_false (by omega)]; rfl
  · intro hc
    have hk : 0 < k := by omega
    have h3 : (x.length : Int) * k ≤ 16777216 := by
      have := Int.ofNat_le.mpr h2
      rw [Int.natCast_mul] at this
      have e : ((k.toNat : Nat) : Int) = k := Int.toNat_of_nonneg h0
      rw [e] at this
      exact this
    have : (x.length : Int) ≤ (2 ^ 63 - 1) / k := (Int.le_ediv_iff_mul_le hk).mpr (by omega)
    omega
  · show decide (x.length * k.toNat > sizeLine) = false
    rw [decide_eq_false]
    show ¬ (x.length * k.toNat > 2 ^ 24)
    omega
  · split
    · have : repS x k = Str.empty := by
        have : k = 0 := by omega
        subst this; rfl
      exact ⟨by show 0 ≤ sizeLine; exact Nat.zero_le _, (fin _ this.symm).1 _⟩
    · rename_i hk
      split
      · rename_i hc
        have : x = repS x k := by
          refine Str.ext' (Array.toList_inj.mp ?_)
          show x.cps.toList = (List.replicate k.toNat x.cps.toList).flatten
          rw [Bool.or_eq_true] at hc
          rcases hc with hc | hc
          · have : k = 1 := of_decide_eq_true hc
            subst this
            simp
          · have h0 : x.cps.size = 0 := (beq_iff_eq.mp hc : x.length = 0)
            have : x.cps.toList = [] := List.length_eq_zero_iff.mp (by rw [Array.length_toList]; exact h0)
            rw [this]; simp
        exact (fin x this).2 _
      · have : (⟨(List.replicate k.toNat x.cps).foldl (· ++ ·) #[]⟩ : Str) = repS x k := by
          refine Str.ext' (Array.toList_inj.mp ?_)
          show ((List.replicate k.toNat x.cps).foldl (· ++ ·) #[]).toList = (List.replicate k.toNat x.cps.toList).flatten
          rw [foldl_app]; simp
        refine ⟨?_, (fin _ this).1 _⟩
        rw [this, repS_len, Nat.mul_comm]
        exact h2
theorem oMul : OpR X (binaryOp .Mult) (rK2 e kMul) := by
  refine opK fun pins s σ H x y v u Q Z d1 d2 r I rx ry zl r1 r2 h q => ?_
  unfold kMul at h
  split at h
  · cases r1.int; cases r2.int
    split at h
    · rename_i hc
      cases h
      exact op_mul pins s σ H _ _ v u Q I rx ry ⟨_, _, rfl, rfl, hc.imp (fun z => by omega) fun z => by omega, q _ _ (Out.scal fun _ _ => rfl)⟩
    · cases h
  · cases r1.str; cases r2.int
    split at h
    · rename_i hc
      cases h
      obtain ⟨t, rfl⟩ := rx
      obtain ⟨t', rfl⟩ := ry
      exact oMulS I hc.1 hc.2.1 hc.2.2 (q _ _ (Out.scal fun _ _ => rfl))
    · cases h
  · obtain ⟨a, vs, rfl, h1, h2⟩ := r1.lst
    cases r2.int
    split at h
    · rename_i k hc
      cases h
      have e63 : (2 : Int) ^ 63 = 9223372036854775808 := rfl
      exact op_rep pins s σ H _ _ v u Q I rx ry ⟨a, k, vs, rfl, rfl, h1, by omega, by omega, by rw [h2.length]; exact hc.2.2, fun p hp => q _ _ (Out.newL hp (h2.rep _))⟩
    · cases h
  · cases h
def kMod := kInt fun i j => if 0 < j then some (i % j) else none
theorem oMod : OpR X (binaryOp .Mod) (rK2 e kMod) := oInt op_mod fun i j n h => by
  split at h
  · cases h; exact ⟨by assumption, rfl⟩
  · cases h
def kPow := kInt fun i j => if 0 ≤ j ∧ j ≤ 1000000 ∧ i.natAbs < 2 ^ 64 then some (i ^ j.toNat) else none
theorem oPow : OpR X (binaryOp .Pow) (rK2 e kPow) := oInt op_pow fun i j n h => by
  split at h
  · cases h; exact ⟨by assumption, rfl⟩
  · cases h
/-- a positive divisor below 2 ^ 9000 -/
def kFdiv := kInt fun i j => if 0 < j ∧ j < 2 ^ 100 then some (i / j) else none

/-! ### data for == -/
mutual
def toPy : D → PyData
  | .non => .none
  | .bl b => .bool b
  | .int i => .int i
  | .str x => .str x
  | .lst ds => .list (toPys ds)
  | .tup ds => .tuple (toPys ds)
  | _ => .dict []
def toPys : List D → List PyData
  | [] => []
  | d :: ds => toPy d :: toPys ds
end
mutual
theorem rp_dp {Z : Zo} {H : Hp} : ∀ (d : D) (v : V), Rp e Z H d v → (toPy d).plain = true → Dp e.K H v (toPy d)
  | .non, _, h, _ => by cases h; exact .non
  | .bl b, _, h, _ => by cases h; exact .bl b
  | .int i, _, h, _ => by cases h; exact .int i
  | .str x, _, h, _ => by cases h; exact .str x
  | .lst ds, _, h, p => by
    obtain ⟨a, vs, rfl, h1, h2⟩ := h
    exact .lst (SqL.of h1.2) (rps_dp ds vs h2 (by simpa [toPy, PyData.plain] using p))
  | .tup ds, _, h, p => by
    obtain ⟨a, vs, rfl, h1, h2⟩ := h
    exact .tup h1.sq (rps_dp ds vs h2 (by simpa [toPy, PyData.plain] using p))
  | .fz _, _, _, p => by simp [toPy, PyData.plain] at p
  | .dk _ _, _, _, p => by simp [toPy, PyData.plain] at p
  | .dt _ _, _, _, p => by simp [toPy, PyData.plain] at p
  | .obj _ _ _, _, _, p => by simp [toPy, PyData.plain] at p
  | .st _, _, _, p => by simp [toPy, PyData.plain] at p
  | .ty _, _, _, p => by simp [toPy, PyData.plain] at p
theorem rps_dp {Z : Zo} {H : Hp} : ∀ (ds : List D) (vs : List V), Rps e Z H ds vs → PyData.plainAll (toPys ds) = true → DpAll e.K H vs (toPys ds)
  | [], _, h, _ => by cases h; exact .nil
  | d :: ds, _, h, p => by
    obtain ⟨v, r, rfl, h1, h2⟩ := h
    have p' : (toPy d).plain = true ∧ PyData.plainAll (toPys ds) = true := by simpa [toPys, PyData.plainAll] using p
    exact .cons (rp_dp d v h1 p'.1) (rps_dp ds r h2 p'.2)
end
theorem rpB_dp {Z : Zo} {H : Hp} {d : D} {v : V} (h : RpB e Z H d v) (p : (toPy d).plain = true) : Dp e.K H v (toPy d) := by
  rcases h with h | ⟨a, rfl, h⟩
  · exact rp_dp d v h p
  · cases d <;> first
      | exact h.elim
      | (obtain ⟨vs, h1, h2⟩ := h; exact .lst (SqL.of h1) (rps_dp _ vs h2 (by simpa [toPy, PyData.plain] using p)))
      | (simp [toPy, PyData.plain] at p)
def kEq : D → D → Option PV := fun a b =>
  if (toPy a).plain = true ∧ (toPy b).plain = true ∧ min (toPy a).depth (toPy b).depth ≤ 60 then some (.val (.bl (PyData.eqv (toPy a) (toPy b)))) else none
def kNe : D → D → Option PV := fun a b =>
  if (toPy a).plain = true ∧ (toPy b).plain = true ∧ min (toPy a).depth (toPy b).depth ≤ 60 then some (.val (.bl (!PyData.eqv (toPy a) (toPy b)))) else none
theorem oEq (hk : X.K = e.K) (hu : X.A.units + 64 < cLine) : OpR X (compareOp .Eq) (rK2 e kEq) := by
  refine opK fun pins s σ H x y v u Q Z d1 d2 r I rx ry zl r1 r2 h q => ?_
  unfold kEq at h
  split at h
  · rename_i c
    cases h
    obtain ⟨as, q1⟩ := Dp.reads I _ x v (hk ▸ rpB_dp r1 c.1) rx
    obtain ⟨bs, q2⟩ := Dp.reads I _ y u (hk ▸ rpB_dp r2 c.2.1) ry
    exact eq_plain q1 q2 c.1 c.2.1 (by have := c.2.2; omega) ⟨.bl _, H, I, rfl, q _ _ (Out.scal fun _ _ => rfl)⟩
  · cases h
theorem oNe (hk : X.K = e.K) (hu : X.A.units + 64 < cLine) : OpR X (compareOp .NotEq) (rK2 e kNe) := by
  refine opK fun pins s σ H x y v u Q Z d1 d2 r I rx ry zl r1 r2 h q => ?_
  unfold kNe at h
  split at h
  · rename_i c
    cases h
    obtain ⟨as, q1⟩ := Dp.reads I _ x v (hk ▸ rpB_dp r1 c.1) rx
    obtain ⟨bs, q2⟩ := Dp.reads I _ y u (hk ▸ rpB_dp r2 c.2.1) ry
    exact ne_plain q1 q2 c.1 c.2.1 (by have := c.2.2; omega) ⟨.bl _, H, I, rfl, q _ _ (Out.scal fun _ _ => rfl)⟩
  · cases h

/-! ### order -/
def kLt : D → D → Option PV
  | .int i, .int j => some (.val (.bl (decide (i < j))))
  | .str i, .str j => some (.val (.bl (decide (i.cps.toList < j.cps.toList))))
  | .tup [.int a, .int b], .tup [.int c, .int d] => some (.val (.bl (HT.lexLt [a, b] [c, d])))
  | _, _ => none
theorem rps_ints {Z : Zo} {H : Hp} : ∀ {ns : List Int} {vs : List V}, Rps e Z H (ns.map D.int) vs → vs = ns.map V.int
  | [], _, h => by cases h; rfl
  | n :: ns, _, h => by
    obtain ⟨v, r, rfl, h1, h2⟩ := h
    cases h1
    rw [rps_ints h2]; rfl
theorem oLt (hk : X.K = e.K) (hu : X.A.units + 64 < cLine) : OpR X (compareOp .Lt) (rK2 e kLt) := by
  refine opK fun pins s σ H x y v u Q Z d1 d2 r I rx ry zl r1 r2 h q => ?_
  unfold kLt at h
  split at h
  · cases r1.int; cases r2.int; cases h
    exact op_lt pins s σ H _ _ v u Q I rx ry ⟨_, _, rfl, rfl, q _ _ (Out.scal fun _ _ => rfl)⟩
  · cases r1.str; cases r2.str; cases h
    exact op_lt_str pins s σ H _ _ v u Q I rx ry ⟨_, _, rfl, rfl, q _ _ (Out.scal fun _ _ => rfl)⟩
  · cases h
    rename_i a b c d
    obtain ⟨a1, vs, rfl, h1, h2⟩ := r1.tup
    obtain ⟨b1, us, rfl, h3, h4⟩ := r2.tup
    have e1 := rps_ints (ns := [a, b]) h2
    have e2 := rps_ints (ns := [c, d]) h4
    subst e1 e2
    exact op_ltT (by omega) pins s σ H _ _ v u Q I rx ry ⟨a1, b1, [a, b], [c, d], rfl, rfl, hk ▸ h1, hk ▸ h3, q _ _ (Out.scal fun _ _ => rfl)⟩
  · cases h
def kIntB (c : Int → Int → Bool) : D → D → Option PV
  | .int i, .int j => some (.val (.bl (c i j)))
  | _, _ => none
theorem oIntB {f : Value → Value → Sem Value} {c : Int → Int → Bool} (h : OpR X f (rI0 fun i j => .bl (c i j))) : OpR X f (rK2 e (kIntB c)) := by
  refine opK fun pins s σ H x y v u Q Z d1 d2 r I rx ry zl r1 r2 hk q => ?_
  unfold kIntB at hk
  split at hk
  · cases r1.int; cases r2.int; cases hk
    exact h pins s σ H _ _ v u Q I rx ry ⟨_, _, rfl, rfl, q _ _ (Out.scal fun _ _ => rfl)⟩
  · cases hk
def kLe : D → D → Option PV
  | .int i, .int j => some (.val (.bl (decide (i ≤ j))))
  | .tup [.int a, .int b], .tup [.int c, .int d] => some (.val (.bl (lexLeI [a, b] [c, d])))
  | .str i, .str j => some (.val (.bl (!decide (j.cps.toList < i.cps.toList))))
  | _, _ => none
def kGt := kIntB fun i j => decide (j < i)
def kGe := kIntB fun i j => decide (j ≤ i)
theorem oLe (hk : X.K = e.K) (hu : X.A.units + 64 < cLine) : OpR X (compareOp .LtE) (rK2 e kLe) := by
  refine opK fun pins s σ H x y v u Q Z d1 d2 r I rx ry zl r1 r2 h q => ?_
  unfold kLe at h
  split at h
  · cases r1.int; cases r2.int; cases h
    exact op_le pins s σ H _ _ v u Q I rx ry ⟨_, _, rfl, rfl, q _ _ (Out.scal fun _ _ => rfl)⟩
  · cases h
    rename_i a b c d
    obtain ⟨a1, vs, rfl, h1, h2⟩ := r1.tup
    obtain ⟨b1, us, rfl, h3, h4⟩ := r2.tup
    have e1 := rps_ints (ns := [a, b]) h2
    have e2 := rps_ints (ns := [c, d]) h4
    subst e1 e2
    have el : Ob.lexAt (fun j => decide ([a, b].getD j 0 = [c, d].getD j 0)) (fun j => decide ([a, b].getD j 0 ≤ [c, d].getD j 0)) (decide ([a, b].length ≤ [c, d].length)) 0 (min [a, b].length [c, d].length) = lexLeI [a, b] [c, d] := by
      simp [Ob.lexAt, lexLeI]
    exact op_leT (by omega) pins s σ H _ _ v u Q I rx ry ⟨a1, b1, [a, b], [c, d], rfl, rfl, hk ▸ h1, hk ▸ h3, by rw [el]; exact q _ _ (Out.scal fun _ _ => rfl)⟩
  · cases r1.str; cases r2.str; cases h
    exact op_le_str pins s σ H _ _ v u Q I rx ry ⟨_, _, rfl, rfl, q _ _ (Out.scal fun _ _ => rfl)⟩
  · cases h
theorem oGt : OpR X (compareOp .Gt) (rK2 e kGt) := oIntB op_gt
theorem oGe : OpR X (compareOp .GtE) (rK2 e kGe) := oIntB op_ge

/-! ### in -/
def kIn (neg : Bool) : D → D → Option PV
  | .str x, .str y => some (.val (.bl (neg != !(Builtin.Str.occurrences y x 0 y.length 1).isEmpty)))
  | d, .lst ds => if (toPy d).plain = true ∧ PyData.plainAll (toPys ds) = true ∧ min (PyData.depthAll (toPys ds)) (toPy d).depth ≤ 60 then some (.val (.bl (neg != (toPys ds).any fun y => PyData.eqv y (toPy d)))) else none
  | d, .tup ds => if (toPy d).plain = true ∧ PyData.plainAll (toPys ds) = true ∧ min (PyData.depthAll (toPys ds)) (toPy d).depth ≤ 60 then some (.val (.bl (neg != (toPys ds).any fun y => PyData.eqv y (toPy d)))) else none
  | _, _ => none
theorem dp_list {K : PySem.W.Frag} {H : Hp} {v : V} {ds : List PyData} (h : Dp K H v (.list ds)) : True := trivial
theorem oIn (hk : X.K = e.K) (hu : X.A.units + 64 < cLine) : OpR X (compareOp .In) (rK2 e (kIn false)) := by
  refine opK fun pins s σ H x y v u Q Z d1 d2 r I rx ry zl r1 r2 h q => ?_
  unfold kIn at h
  split at h
  · cases r1.str; cases r2.str; cases h
    refine op_in_str pins s σ H _ _ v u Q I rx ry ⟨_, _, rfl, rfl, q _ _ ?_⟩
    rw [Bool.false_bne]
    exact Out.scal fun _ _ => rfl
  · split at h
    · rename_i c
      cases h
      obtain ⟨as, q1⟩ := Dp.reads I _ x v (hk ▸ rpB_dp r1 c.1) rx
      obtain ⟨bs, q2⟩ := Dp.reads I _ y u (hk ▸ rpB_dp r2 (by simpa [toPy, PyData.plain] using c.2.1)) ry
      rw [toPy] at q2
      refine in_list_data q2 q1 c.2.1 c.1 (by have := c.2.2; omega) ⟨.bl _, H, I, rfl, q _ _ ?_⟩
      rw [Bool.false_bne]
      exact Out.scal fun _ _ => rfl
    · cases h
  · split at h
    · rename_i c
      cases h
      obtain ⟨as, q1⟩ := Dp.reads I _ x v (hk ▸ rpB_dp r1 c.1) rx
      obtain ⟨bs, q2⟩ := Dp.reads I _ y u (hk ▸ rpB_dp r2 (by simpa [toPy, PyData.plain] using c.2.1)) ry
      rw [toPy] at q2
      refine in_tuple_data q2 q1 c.2.1 c.1 (by have := c.2.2; omega) ⟨.bl _, H, I, rfl, q _ _ ?_⟩
      rw [Bool.false_bne]
      exact Out.scal fun _ _ => rfl
    · cases h
  · cases h
theorem oNotIn (hk : X.K = e.K) (hu : X.A.units + 64 < cLine) : OpR X (compareOp .NotIn) (rK2 e (kIn true)) := by
  refine opK fun pins s σ H x y v u Q Z d1 d2 r I rx ry zl r1 r2 h q => ?_
  unfold kIn at h
  split at h
  · cases r1.str; cases r2.str; cases h
    refine op_notin_str pins s σ H _ _ v u Q I rx ry ⟨_, _, rfl, rfl, q _ _ ?_⟩
    rw [Bool.true_bne]
    exact Out.scal fun _ _ => rfl
  · split at h
    · rename_i c
      cases h
      obtain ⟨as, q1⟩ := Dp.reads I _ x v (hk ▸ rpB_dp r1 c.1) rx
      obtain ⟨bs, q2⟩ := Dp.reads I _ y u (hk ▸ rpB_dp r2 (by simpa [toPy, PyData.plain] using c.2.1)) ry
      rw [toPy] at q2
      refine notIn_list_data q2 q1 c.2.1 c.1 (by have := c.2.2; omega) ⟨.bl _, H, I, rfl, q _ _ ?_⟩
      rw [Bool.true_bne]
      exact Out.scal fun _ _ => rfl
    · cases h
  · split at h
    · rename_i c
      cases h
      obtain ⟨as, q1⟩ := Dp.reads I _ x v (hk ▸ rpB_dp r1 c.1) rx
      obtain ⟨bs, q2⟩ := Dp.reads I _ y u (hk ▸ rpB_dp r2 (by simpa [toPy, PyData.plain] using c.2.1)) ry
      rw [toPy] at q2
      refine notIn_tuple_data q2 q1 c.2.1 c.1 (by have := c.2.2; omega) ⟨.bl _, H, I, rfl, q _ _ ?_⟩
      rw [Bool.true_bne]
      exact Out.scal fun _ _ => rfl
    · cases h
  · cases h
/-! ### is None -/
def isNon : D → Bool
  | .non => true
  | _ => false
def kIsN (neg : Bool) : D → D → Option PV
  | d, .non => some (.val (.bl (neg != isNon d)))
  | _, _ => none
theorem rp_non {Z : Zo} {H : Hp} {d : D} {v : V} (r : RpB e Z H d v) : decide (v = .non) = isNon d := by
  rcases r with r | ⟨a, rfl, r⟩
  · cases d <;> first
      | (cases r; rfl)
      | (obtain ⟨a, _, rfl, _⟩ := r; rfl)
      | (obtain ⟨a, rfl, _⟩ := r; rfl)
      | (obtain ⟨a, _, _, rfl, _⟩ := r; rfl)
  · cases d <;> first
      | rfl
      | exact r.elim
theorem oIs : OpR X (compareOp .Is) (rK2 e (kIsN false)) := by
  refine opK fun pins s σ H x y v u Q Z d1 d2 r I rx ry zl r1 r2 h q => ?_
  unfold kIsN at h
  split at h
  · cases r2.non; cases h
    refine op_isN pins s σ H _ _ v u Q I rx ry ⟨rfl, q _ _ ?_⟩
    rw [rp_non r1, Bool.false_bne]
    exact Out.scal fun _ _ => rfl
  · cases h
theorem oIsNot : OpR X (compareOp .IsNot) (rK2 e (kIsN true)) := by
  refine opK fun pins s σ H x y v u Q Z d1 d2 r I rx ry zl r1 r2 h q => ?_
  unfold kIsN at h
  split at h
  · cases r2.non; cases h
    refine op_notN pins s σ H _ _ v u Q I rx ry ⟨rfl, q _ _ ?_⟩
    rw [rp_non r1, Bool.true_bne]
    exact Out.scal fun _ _ => rfl
  · cases h
end
end PD
namespace PD
open PySem PySem.Spec L2
section
variable {e : Ev} {X : Cx}
theorem oFdiv : OpR X (binaryOp .FloorDiv) (rK2 e kFdiv) := oInt op_fdivW fun i j n h => by
  split at h
  · rename_i c
    cases h
    refine ⟨⟨c.1, ?_⟩, rfl⟩
    have h1 : j.natAbs < 2 ^ 100 := by have := c.2; omega
    have h2 : j.natAbs ≠ 0 := by have := c.1; omega
    have := (Nat.log2_lt h2).mpr h1
    omega
  · cases h
end
end PD

/-! PD5: tests, argument lists, displays, subscripts, fields, built-ins -/
namespace PD
open PySem PySem.Spec L2

section
variable {e : Ev} {W : WX} {P : Pre} {σ : L2.St} {G G1 G2 : List Sl} {H H1 H2 : Hp} {Z : Zo} {X : Cx} {a b c : Expr} {fa fb fc : EF} {ta tb : TF} {pos : Pos}

/-! ### and, or, not -/
def cAnd (t u : TF) : TF := fun G => (t G).bind fun b G1 => if b = true then u G1 else .ok false G1
def cOr (t u : TF) : TF := fun G => (t G).bind fun b G1 => if b = true then .ok true G1 else u G1
def cNot (t : TF) : TF := fun G => (t G).bind fun b G1 => .ok (!b) G1
theorem tT_then {k : Bool → List Sl → R Bool} {t : TF} {Q : Bool → Hp → Prop} {R' : Bool → Hp → Prop} (h : tT e W (fun G => (t G).bind k) σ H Q)
    (hk : ∀ P G Z0 H0 H b, Sat e P G σ H → Step Z0 H0 (Zn P G σ) H → PostR e W P σ Z0 H0 (fun b G2 => ∀ H2, Sat e P G2 σ H2 → Step Z0 H0 (Zn P G2 σ) H2 → Q b H2) (k b G) → R' b H) : tT e W t σ H R' := by
  obtain ⟨P, G, S, h⟩ := h
  exact tT_at S (Step.refl _ _) (h.bind.mono (fun b G1 h H1 S1 st1 => hk P G1 _ _ H1 b S1 st1 h) fun _ _ s => s)
theorem PostR.inT {f : TF} {Z0 : Zo} {H0 : Hp} {Q : Bool → Hp → Prop} (S : Sat e P G σ H) (st : Step Z0 H0 (Zn P G σ) H) (h : PostR e W P σ Z0 H0 (fun b G2 => ∀ H2, Sat e P G2 σ H2 → Step Z0 H0 (Zn P G2 σ) H2 → Q b H2) (f G)) : tT e W f σ H Q :=
  tT_at S st (h.mono (fun _ _ k H2 S2 s2 => k H2 S2 (st.trans s2)) fun _ _ s => s)
theorem PostR.inD {f : EF} {Z0 : Zo} {H0 : Hp} {Q : VK} (S : Sat e P G σ H) (st : Step Z0 H0 (Zn P G σ) H) (h : PostR e W P σ Z0 H0 (fun pv G2 => ∀ v H2, Res e P σ Z0 H0 pv G2 v H2 → Q v H2) (f G)) : tD e W f σ H Q :=
  tD_at S st (h.mono (fun _ _ k v H2 r => k v H2 (r.from_ st)) fun _ _ s => s)
theorem dw_and1 (ha : PT X a (tT e W ta)) : PW X (.BoolOp .And [a] pos) (tT e W ta) := pw_and1 ha
theorem dw_or1 (ha : PT X a (tT e W ta)) : PW X (.BoolOp .Or [a] pos) (tT e W ta) := pw_or1 ha
variable {rest : List Expr}
theorem dw_and (ha : PT X a (tT e W ta)) (hb : PW X (.BoolOp .And (b :: rest) pos) (tT e W tb)) : PW X (.BoolOp .And (a :: b :: rest) pos) (tT e W (cAnd ta tb)) :=
  (pw_and ha hb).imp fun σ H Q h => tT_then h fun P G Z0 H0 H b S st q => by
    cases b
    · exact q H S st
    · exact q.inT S st
theorem dw_or (ha : PT X a (tT e W ta)) (hb : PW X (.BoolOp .Or (b :: rest) pos) (tT e W tb)) : PW X (.BoolOp .Or (a :: b :: rest) pos) (tT e W (cOr ta tb)) :=
  (pw_or ha hb).imp fun σ H Q h => tT_then h fun P G Z0 H0 H b S st q => by
    cases b
    · exact q.inT S st
    · exact q H S st
theorem dt_not (ha : PT X a (tT e W ta)) : PT X (.UnaryOp .Not a pos) (tT e W (cNot ta)) :=
  (pt_not ha).imp fun σ H Q h => tT_then h fun P G Z0 H0 H b S st q => q H S st
/-- .. as values: the last one any value, those ahead True or False -/
def cAndV (fa fb : EF) : EF := fun G => (fa G).bind fun pv G1 => match pv with
  | .val (.bl true) => fb G1
  | .val (.bl false) => .ok (.val (.bl false)) G1
  | _ => .bad
def cOrV (fa fb : EF) : EF := fun G => (fa G).bind fun pv G1 => match pv with
  | .val (.bl true) => .ok (.val (.bl true)) G1
  | .val (.bl false) => fb G1
  | _ => .bad
def cNotV (fa : EF) : EF := fun G => (fa G).bind fun pv G1 => match pv with
  | .val (.bl b) => .ok (.val (.bl (!b))) G1
  | _ => .bad
theorem tD_then {k : PV → List Sl → R PV} {t : EF} {Q : VK} {R' : VK} (h : tD e W (fun G => (t G).bind k) σ H Q)
    (hk : ∀ P G Z0 H0 H pv v, Res e P σ Z0 H0 pv G v H → PostR e W P σ Z0 H0 (fun pv G2 => ∀ v H2, Res e P σ Z0 H0 pv G2 v H2 → Q v H2) (k pv G) → R' v H) : tD e W t σ H R' := by
  obtain ⟨P, G, S, h⟩ := h
  exact tD_at S (Step.refl _ _) (h.bind.mono (fun pv G1 h v H1 r => hk P G1 _ _ H1 pv v r h) fun _ _ s => s)
theorem de_and (ha : PE X a (tD e W fa)) (hb : PE X (.BoolOp .And (b :: rest) pos) (tD e W fb)) : PE X (.BoolOp .And (a :: b :: rest) pos) (tD e W (cAndV fa fb)) :=
  (pe_and ha hb).imp fun σ H Q h => tD_then h fun P G Z0 H0 H pv v r q => by
    split at q
    · obtain ⟨S, st, rfl⟩ := r
      exact ⟨_, rfl, iteT (q.inD S st)⟩
    · obtain ⟨S, st, rfl⟩ := r
      exact ⟨_, rfl, iteF (q _ H ⟨S, st, rfl⟩)⟩
    · exact q.elim
theorem de_or (ha : PE X a (tD e W fa)) (hb : PE X (.BoolOp .Or (b :: rest) pos) (tD e W fb)) : PE X (.BoolOp .Or (a :: b :: rest) pos) (tD e W (cOrV fa fb)) :=
  (pe_or ha hb).imp fun σ H Q h => tD_then h fun P G Z0 H0 H pv v r q => by
    split at q
    · obtain ⟨S, st, rfl⟩ := r
      exact ⟨_, rfl, iteT (q _ H ⟨S, st, rfl⟩)⟩
    · obtain ⟨S, st, rfl⟩ := r
      exact ⟨_, rfl, iteF (q.inD S st)⟩
    · exact q.elim
theorem de_not (ha : PE X a (tD e W fa)) : PE X (.UnaryOp .Not a pos) (tD e W (cNotV fa)) :=
  (pe_not ha).imp fun σ H Q h => tD_then h fun P G Z0 H0 H pv v r q => by
    split at q
    · obtain ⟨S, st, rfl⟩ := r
      exact ⟨_, rfl, q _ H ⟨S, st, rfl⟩⟩
    · exact q.elim
theorem de_one {op : BoolOp} (h : PE X a (tD e W fa)) : PE X (.BoolOp op [a] pos) (tD e W fa) := pe_one h
def cIfE (t : TF) (fa fb : EF) : EF := fun G => (t G).bind fun b G1 => if b = true then fa G1 else fb G1
theorem de_ifE {c : Expr} (hc : PT X c (tT e W ta)) (ha : PE X a (tD e W fa)) (hb : PE X b (tD e W fb)) : PE X (.IfExp c a b pos) (tD e W (cIfE ta fa fb)) :=
  (pe_ifExp hc ha hb).imp fun σ H Q h => by
    obtain ⟨P, G, S, h⟩ := h
    refine tT_at S (Step.refl _ _) (h.bind.mono (fun b G1 h H1 S1 st1 => ?_) fun _ _ s => s)
    cases b
    · exact iteF ((show PostR e W P σ _ _ _ (fb G1) from h).inD S1 st1)
    · exact iteT ((show PostR e W P σ _ _ _ (fa G1) from h).inD S1 st1)

/-! ### argument lists -/
def aNil : AF := fun G => .ok [] G
def aCons (fa : EF) (fr : AF) : AF := fun G => (fa G).bind fun p G1 => (fr G1).bind fun ps G2 => .ok (p :: ps) G2
theorem da_nil : PA X [] (tA e W aNil) := pa_nil.imp fun σ H Q h => by
  obtain ⟨P, G, S, h⟩ := h
  exact h [] H S (Step.refl _ _) rfl
theorem da_cons {es : List Expr} {fr : AF} (ha : PE X a (tD e W fa)) (hr : PA X es (tA e W fr)) (hs : starEach (a :: es) X.env = (false, eval a X.env) :: starEach es X.env := by rfl) : PA X (a :: es) (tA e W (aCons fa fr)) :=
  (pa_cons ha hr hs).imp fun σ H Q h => by
    obtain ⟨P, G, S, h⟩ := h
    refine tD_at S (Step.refl _ _) (h.bind.mono (fun p G1 h v H1 r => ?_) fun _ _ s => s)
    obtain ⟨S1, st1, t1⟩ := r.tmp
    refine tA_at S1 st1 (h.bind.mono (fun ps G2 h vs H2 S2 st2 t2 => ?_) fun _ _ s => s)
    exact h (v :: vs) H2 S2 (st1.trans st2) ⟨v, vs, rfl, t1.step st2, t2⟩
def escs : List PV → List Sl → Option (List D × List Sl)
  | [], G => some ([], G)
  | p :: ps, G => match esc p G with
    | some (d, G1) => (match escs ps G1 with
      | some (ds, G2) => some (d :: ds, G2)
      | none => none)
    | none => none
theorem escs_ok : ∀ {ps : List PV} {vs : List V} {ds : List D} {G G1 : List Sl}, Sat e P G σ H → Tmps e P σ G H ps vs → escs ps G = some (ds, G1) → Sat e P G1 σ H ∧ Step (Zn P G σ) H (Zn P G1 σ) H ∧ Rps e (Zn P G1 σ) H ds vs
  | [], _, _, _, _, S, t, h => by cases h; exact ⟨S, Step.refl _ _, t⟩
  | p :: ps, _, _, _, _, S, t, h => by
    obtain ⟨v, r, rfl, t1, t2⟩ := t
    unfold escs at h
    split at h
    · rename_i d G1 q1
      obtain ⟨S1, st1, r1⟩ := esc_ok S t1 q1
      split at h
      · rename_i ds G2 q2
        cases h
        obtain ⟨S2, st2, r2⟩ := escs_ok S1 (t2.step st1) q2
        exact ⟨S2, st1.trans st2, v, r, rfl, Rp.step st2 _ _ r1, r2⟩
      · cases h
    · cases h
def peeks : List PV → List Sl → Option (List D)
  | [], _ => some []
  | p :: ps, G => match peek p G with
    | some d => (match peeks ps G with
      | some ds => some (d :: ds)
      | none => none)
    | none => none
def RpBs (e : Ev) (Z : Zo) (H : Hp) : List D → List V → Prop
  | [], vs => vs = []
  | d :: ds, vs => ∃ v r, vs = v :: r ∧ RpB e Z H d v ∧ RpBs e Z H ds r
theorem peeks_ok : ∀ {ps : List PV} {vs : List V} {ds : List D}, Sat e P G σ H → Tmps e P σ G H ps vs → peeks ps G = some ds → RpBs e (Zn P G σ) H ds vs
  | [], _, _, S, t, h => by cases h; exact t
  | p :: ps, _, _, S, t, h => by
    obtain ⟨v, r, rfl, t1, t2⟩ := t
    unfold peeks at h
    split at h
    · rename_i d q1
      split at h
      · rename_i ds q2
        cases h
        exact ⟨v, r, rfl, peek_ok S t1 q1, peeks_ok S t2 q2⟩
      · cases h
    · cases h
/-- what comes behind an argument list -/
theorem tA_then {k : List PV → List Sl → R PV} {t : AF} {Q : VK} {R' : List V → Hp → Prop} (h : tD e W (fun G => (t G).bind k) σ H Q)
    (hk : ∀ P G Z0 H0 H ps vs, Sat e P G σ H → Step Z0 H0 (Zn P G σ) H → Tmps e P σ G H ps vs → PostR e W P σ Z0 H0 (fun pv G2 => ∀ v H2, Res e P σ Z0 H0 pv G2 v H2 → Q v H2) (k ps G) → R' vs H) : tA e W t σ H R' := by
  obtain ⟨P, G, S, h⟩ := h
  exact tA_at S (Step.refl _ _) (h.bind.mono (fun ps G1 h vs H1 S1 st1 t1 => hk P G1 _ _ H1 ps vs S1 st1 t1 h) fun _ _ s => s)

/-! ### displays -/
def cTup (fs : AF) : EF := fun G => (fs G).bind fun ps G1 => match escs ps G1 with
  | some (ds, G2) => if ds.length ≤ 1000 then .ok (.val (.tup ds)) G2 else .bad
  | none => .bad
def cLst (fs : AF) : EF := fun G => (fs G).bind fun ps G1 => match escs ps G1 with
  | some (ds, G2) => if ds.length ≤ 1000 then .ok (.fr (.lst ds)) G2 else .bad
  | none => .bad
theorem de_tup {es : List Expr} {fs : AF} {x1} (h : PA X es (tA e W fs)) : PE X (.Tuple es x1 pos) (tD e W (cTup fs)) := (pe_tup h).imp fun σ H Q h => tA_then h fun P G Z0 H0 H ps vs S st t q => by
  split at q
  · rename_i ds G2 q1
    obtain ⟨S1, st1, r1⟩ := escs_ok S t q1
    split at q
    · rename_i hl
      have zl : ∀ a, Zn P G2 σ a → H a ≠ none := fun a z => S1.zlive z
      exact ⟨by rw [r1.length, sizeLine_eq]; omega, fun p hp => q _ _ ((Out.newT zl hp r1).res S1 |>.from_ (st.trans st1))⟩
    · exact q.elim
  · exact q.elim
theorem de_lst {es : List Expr} {fs : AF} (h : PA X es (tA e W fs)) : PE X (.List es pos) (tD e W (cLst fs)) := (pe_lst h).imp fun σ H Q h => tA_then h fun P G Z0 H0 H ps vs S st t q => by
  split at q
  · rename_i ds G2 q1
    obtain ⟨S1, st1, r1⟩ := escs_ok S t q1
    split at q
    · rename_i hl
      refine ⟨by rw [r1.length, sizeLine_eq]; omega, fun p hp => q _ _ ((Out.newL hp r1).res S1 |>.from_ (st.trans st1))⟩
    · exact q.elim
  · exact q.elim

/-! ### subscripts -/
def kIx : D → D → Option PV
  | .lst ds, .int i => (atI ds i).map .val
  | .fz ds, .int i => (atI ds i).map .val
  | .tup ds, .int i => (atI ds i).map .val
  | .str x, .int i => if x.length ≤ sizeLine then (atI x.cps.toList i).map fun c => .val (.str ⟨#[c]⟩) else none
  | _, _ => none
theorem atI_rps {ds : List D} {vs : List V} {i : Int} {d : D} (r : Rps e Z H ds vs) (h : atI ds i = some d) : ∃ v, atI vs i = some v ∧ Rp e Z H d v := by
  unfold atI at h ⊢
  rw [r.length]
  cases q : ixN ds.length i with
  | none => rw [q] at h; cases h
  | some j =>
    rw [q] at h
    exact r.get h
def IxK (e : Ev) (k : D → D → Option PV) (X : Cx) : Prop := IxR X (rK2 e k)
theorem xIx (hk : X.K = e.K) : IxR X (rK2 e kIx) := by
  intro value slice pins s σ H x y v u Q I rx ry h hs
  obtain ⟨Z, d1, d2, r, zl, r1, r2, h, q⟩ := h
  have fin : ∀ {ds : List D} {vs : List V} {i : Int}, Rps e Z H ds vs → (atI ds i).map PV.val = some r → ∃ w, atI vs i = some w ∧ Q w H := fun {ds vs i} r1 h => by
    cases q1 : atI ds i with
    | none => rw [q1] at h; cases h
    | some d =>
      rw [q1] at h; cases h
      obtain ⟨w, h1, h2⟩ := atI_rps r1 q1
      exact ⟨w, h1, q _ _ ⟨Grow.refl H, h2⟩⟩
  unfold kIx at h
  split at h
  · obtain ⟨a, vs, rfl, h1, h2⟩ := r1.lst
    cases r2.int
    obtain ⟨w, h3, h4⟩ := fin h2 h
    exact ix_list value slice pins s σ H _ _ v u Q I rx ry ⟨a, vs, _, w, rfl, rfl, SqL.of h1, h3, h4⟩ hs
  · obtain ⟨a, vs, rfl, h1, h2⟩ := r1.fz
    cases r2.int
    obtain ⟨w, h3, h4⟩ := fin h2 h
    exact ix_list value slice pins s σ H _ _ v u Q I rx ry ⟨a, vs, _, w, rfl, rfl, hk ▸ h1, h3, h4⟩ hs
  · obtain ⟨a, vs, rfl, h1, h2⟩ := r1.tup
    cases r2.int
    obtain ⟨w, h3, h4⟩ := fin h2 h
    exact ix_tup value slice pins s σ H _ _ v u Q I rx ry ⟨a, vs, _, w, rfl, rfl, hk ▸ h1, h3, h4⟩ hs
  · cases r1.str; cases r2.int
    rename_i x i
    split at h
    · cases q1 : atI x.cps.toList i with
      | none => rw [q1] at h; cases h
      | some c =>
        rw [q1] at h; cases h
        exact ix_str value slice pins s σ H _ _ v u Q I rx ry ⟨x, i, c, rfl, rfl, by assumption, q1, q _ _ (Out.scal fun _ _ => rfl)⟩ hs
    · cases h
  · cases h
theorem de_ix {k : D → D → Option PV} (hr : IxR X (rK2 e k)) (ha : PE X a (tD e W fa)) (hb : PE X b (tD e W fb)) (hs : PlainIx b := by intro _ _; rfl) : PE X (.Subscript a b pos) (tD e W (cBin k fa fb)) := (pe_ix hr ha hb hs).imp fun _ _ _ => tD_bin

/-! ### slices -/
def oPart : Option D → Option (Option Int)
  | none => some none
  | some (.int i) => some (some i)
  | _ => none
def cutD (xs : List D) (lo hi : Option Int) : List D := (xs.drop (HT.sIx xs.length 0 lo)).take (HT.sIx xs.length xs.length hi - HT.sIx xs.length 0 lo)
def kSl : D → Option Int → Option Int → Option PV
  | .lst ds, lo, hi => some (.fr (.lst (cutD ds lo hi)))
  | .tup ds, lo, hi => some (.val (.tup (cutD ds lo hi)))
  | .str x, lo, hi => if x.length ≤ sizeLine then some (.val (.str (cutS x lo hi))) else none
  | _, _, _ => none
end
end PD

/-! PD6: slices, fields, built-ins -/
namespace PD
open PySem PySem.Spec L2

section
variable {e : Ev} {W : WX} {P : Pre} {σ : L2.St} {G G1 G2 : List Sl} {H H1 H2 : Hp} {Z : Zo} {X : Cx} {a b c : Expr} {fa fb fc : EF} {pos : Pos}

/-! ### slices -/
def tO (e : Ev) (W : WX) (f : F (Option Int)) : TO := fun σ H Q => ∃ P G, Sat e P G σ H ∧ PostR e W P σ (Zn P G σ) H (fun o G1 => ∀ H1, Sat e P G1 σ H1 → Step (Zn P G σ) H (Zn P G1 σ) H1 → Q o H1) (f G)
def oNo : F (Option Int) := fun G => .ok none G
def oSome (f : EF) : F (Option Int) := fun G => (f G).bind fun pv G1 => match pv with
  | .val (.int i) => .ok (some i) G1
  | _ => .bad
theorem do_none : PO X none (tO e W oNo) := ⟨fun pins s σ H Q I h => po_none.run pins s σ H Q I (by
  obtain ⟨P, G, S, h⟩ := h
  exact h H S (Step.refl _ _))⟩
theorem do_some (h : PE X a (tD e W fa)) : PO X (some a) (tO e W (oSome fa)) := ⟨fun pins s σ H Q I q => (po_some h).run pins s σ H Q I (by
  obtain ⟨P, G, S, q⟩ := q
  refine tD_at S (Step.refl _ _) (q.bind.mono (fun pv G1 q v H1 r => ?_) fun _ _ s => s)
  split at q
  · obtain ⟨S1, st1, rfl⟩ := r
    exact ⟨_, rfl, q H1 S1 st1⟩
  · exact q.elim)⟩
def cSl (f : EF) (l u : F (Option Int)) : EF := fun G => (f G).bind fun p G1 => (l G1).bind fun lo G2 => (u G2).bind fun hi G3 => match peek p G3 with
  | some d => (match kSl d lo hi with
    | some r => (match r with
      | .val d => .ok (.val d) G3
      | .fr d => .ok (.fr d) G3
      | .sl _ => .bad)
    | none => .bad)
  | none => .bad
theorem cutD_rps {ds : List D} {vs : List V} {lo hi : Option Int} (r : Rps e Z H ds vs) : Rps e Z H (cutD ds lo hi) (cutV vs lo hi) := by
  unfold cutD cutV
  rw [r.length]
  exact (r.drop _).take _
theorem cutD_whole {ds : List D} {lo hi : Option Int} (h : HT.sIx ds.length 0 lo = 0 ∧ HT.sIx ds.length ds.length hi = ds.length) : cutD ds lo hi = ds := by
  unfold cutD
  rw [h.1, h.2]; simp
def rSlK (e : Ev) : V → Option Int → Option Int → Hp → VK → Prop := fun x lo hi H Q => ∃ Z d r, (∀ a, Z a → H a ≠ none) ∧ RpB e Z H d x ∧ kSl d lo hi = some r ∧ ∀ v H1, Out e Z H r v H1 → Q v H1
theorem slK (hk : X.K = e.K) : SlR X (rSlK e) := by
  intro pins s σ H x v vl vu lo hi sl Q I rx hs pl pu h
  obtain ⟨Z, d, r, zl, r1, h, q⟩ := h
  unfold kSl at h
  split at h
  · obtain ⟨a, vs, rfl, h1, h2⟩ := r1.lst
    cases h
    exact sl_list pins s σ H _ v vl vu _ _ sl Q I rx hs pl pu ⟨a, vs, rfl, SqL.of h1, fun p hp => q _ _ (Out.newL hp (cutD_rps h2))⟩
  · obtain ⟨a, vs, rfl, h1, h2⟩ := r1.tup
    cases h
    rename_i ds
    refine sl_tupA pins s σ H _ v vl vu _ _ sl Q I rx hs pl pu ⟨a, vs, rfl, hk ▸ h1, fun w => q _ _ ?_, fun _ p hp => q _ _ (Out.newT zl hp (cutD_rps h2))⟩
    rw [h2.length] at w
    rw [cutD_whole w]
    exact ⟨Grow.refl H, r1.elim id fun ⟨_, _, z⟩ => z.elim⟩
  · cases r1.str
    split at h
    · cases h
      exact sl_str pins s σ H _ v vl vu _ _ sl Q I rx hs pl pu ⟨_, rfl, by assumption, q _ _ (Out.scal fun _ _ => rfl)⟩
    · cases h
  · cases h
theorem de_slice {lo hi : Option Expr} {l u : F (Option Int)} {p2 : Pos} (hk : X.K = e.K) (he : PE X a (tD e W fa)) (hl : PO X lo (tO e W l)) (hu : PO X hi (tO e W u)) : PE X (.Subscript a (.Slice lo hi none p2) pos) (tD e W (cSl fa l u)) :=
  (pe_slice (slK hk) he hl hu).imp fun σ H Q h => by
    obtain ⟨P, G, S, h⟩ := h
    refine tD_at S (Step.refl _ _) (h.bind.mono (fun p G1 h v H1 r => ?_) fun _ _ s => s)
    obtain ⟨S1, st1, t1⟩ := r.tmp
    refine ⟨P, G1, S1, h.bind.mono (fun lo G2 h H2 S2 st2 => ?_) fun _ _ s => st1.trans s⟩
    refine ⟨P, G2, S2, h.bind.mono (fun hi G3 h H3 S3 st3 => ?_) fun _ _ s => (st1.trans st2).trans s⟩
    have t3 := (t1.step st2).step st3
    split at h
    · rename_i d p1
      split at h
      · rename_i r q1
        refine ⟨_, d, r, fun a z => S3.zlive z, peek_ok S3 t3 p1, q1, fun v H4 o => ?_⟩
        split at h
        · exact h v H4 ((o.res S3).from_ ((st1.trans st2).trans st3))
        · exact h v H4 ((o.res S3).from_ ((st1.trans st2).trans st3))
        · exact h.elim
      · exact h.elim
    · exact h.elim

/-! ### fields -/
def lkN : List Nat → List D → Nat → Option D
  | n :: ns, d :: ds, f => if n = f then some d else lkN ns ds f
  | _, _, _ => none
theorem lkN_ok : ∀ {ns : List Nat} {ds : List D} {fs : List (Str × V)} {f : Nat} {d : D}, fs.map (·.1) = ns.map e.nm → Rps e Z H ds (fs.map (·.2)) → lkN ns ds f = some d → ∃ v, fs.lookup (e.nm f) = some v ∧ Rp e Z H d v
  | [], _, _, _, _, _, _, h => by simp [lkN] at h
  | _ :: _, [], _, _, _, _, _, h => by simp [lkN] at h
  | n :: ns, d :: ds, [], _, _, h, _, _ => by simp at h
  | n :: ns, d :: ds, (x, v) :: fs, f, d', h1, h2, h => by
    simp only [List.map_cons, List.cons.injEq] at h1
    obtain ⟨rfl, h1⟩ := h1
    obtain ⟨v', r, e1, h3, h4⟩ := h2
    simp only [List.map_cons, List.cons.injEq] at e1
    obtain ⟨rfl, rfl⟩ := e1
    unfold lkN at h
    split at h
    · rename_i q
      subst q; cases h
      exact ⟨v, by simp [List.lookup], h3⟩
    · rename_i q
      obtain ⟨w, h5, h6⟩ := lkN_ok h1 h4 h
      refine ⟨w, ?_, h6⟩
      have ne : (e.nm f == e.nm n) = false := by
        rw [beq_eq_false_iff_ne]
        exact fun z => q (e.inj _ _ z).symm
      simp [List.lookup, ne, h5]
theorem lkN_none : ∀ {ns : List Nat} {fs : List (Str × V)} {f : Nat}, fs.map (·.1) = ns.map e.nm → f ∉ ns → fs.lookup (e.nm f) = none
  | [], fs, _, h, _ => by
    cases fs with
    | nil => rfl
    | cons a r => simp at h
  | n :: ns, [], _, h, _ => by simp at h
  | n :: ns, (x, v) :: fs, f, h1, h2 => by
    simp only [List.map_cons, List.cons.injEq] at h1
    obtain ⟨rfl, h1⟩ := h1
    have ne : (e.nm f == e.nm n) = false := by
      rw [beq_eq_false_iff_ne]
      exact fun z => h2 (by rw [e.inj _ _ z]; exact List.mem_cons_self)
    simp [List.lookup, ne, lkN_none h1 (fun z => h2 (List.mem_cons_of_mem _ z))]
/-- o.f, f a plain field of one of the classes cs -/
def cFld (cs : List Nat) (f : Nat) (fa : EF) : EF := fun G => (fa G).bind fun p G1 => match peek p G1 with
  | some (.obj c ns ds) => if cs.contains c then (match lkN ns ds f with
    | some d => .ok (.val d) G1
    | none => .bad) else .bad
  | _ => .bad
theorem de_fld {cs : List Nat} {f : Nat} {x : Str} {o : Expr} (hk : X.K = e.K) (hx : x = e.nm f) (hc : ∀ c ∈ cs, Cls e.K (e.ga c) ∧ NoAttr e.K (e.ga c) (e.nm f)) (ho : PE X o (tD e W fa)) (hb : attributeBase o x X.env (eval o X.env) = eval o X.env := by rfl) :
    PE X (.Attribute o x pos) (tD e W (cFld cs f fa)) := (pe_fld ho hb).imp fun σ H Q h => by
  subst hx
  refine tD_then h fun P G Z0 H0 H pv v r q => ?_
  obtain ⟨S1, st1, t1⟩ := r.tmp
  split at q
  · rename_i c ns ds p1
    obtain ⟨a, dx, fs, rfl, h1, h2, h3⟩ := (peek_ok S1 t1 p1).obj
    split at q
    · rename_i hcs
      obtain ⟨k1, k2⟩ := hc c (by simpa using hcs)
      split at q
      · rename_i d q1
        obtain ⟨v, h4, h5⟩ := lkN_ok h2 h3 q1
        exact ⟨a, _, dx, fs, v, rfl, h1, hk ▸ k1, hk ▸ k2, h4, q v H ⟨S1, st1, h5⟩⟩
      · exact q.elim
    · exact q.elim
  · exact q.elim

/-! ### built-ins by data -/
def rKB (e : Ev) (k : List D → Option PV) : List V → Hp → VK → Prop := fun xs H Q => ∃ Z ds r, (∀ a, Z a → H a ≠ none) ∧ RpBs e Z H ds xs ∧ k ds = some r ∧ ∀ v H1, Out e Z H r v H1 → Q v H1
def finB (k : List D → Option PV) (ps : List PV) (G : List Sl) : R PV := match peeks ps G with
  | some ds => (match k ds with
    | some (.val d) => .ok (.val d) G
    | some (.fr d) => .ok (.fr d) G
    | _ => .bad)
  | none => .bad
def cCB (k : List D → Option PV) (fs : AF) : EF := fun G => (fs G).bind fun ps G1 => finB k ps G1
theorem finB_ok {k : List D → Option PV} {ps : List PV} {vs : List V} {Q : VK} {Z0 : Zo} {H0 : Hp} (S : Sat e P G σ H) (t : Tmps e P σ G H ps vs) (st : Step Z0 H0 (Zn P G σ) H)
    (q : PostR e W P σ Z0 H0 (fun pv G2 => ∀ v H2, Res e P σ Z0 H0 pv G2 v H2 → Q v H2) (finB k ps G)) : rKB e k vs H Q := by
  unfold finB at q
  split at q
  · rename_i ds p1
    split at q
    · rename_i d q1
      exact ⟨_, ds, _, fun a z => S.zlive z, peeks_ok S t p1, q1, fun v H1 o => q v H1 ((o.res S).from_ st)⟩
    · rename_i d q1
      exact ⟨_, ds, _, fun a z => S.zlive z, peeks_ok S t p1, q1, fun v H1 o => q v H1 ((o.res S).from_ st)⟩
    · exact q.elim
  · exact q.elim
theorem tD_cb {k : List D → Option PV} {fs : AF} {Q : VK} (h : tD e W (cCB k fs) σ H Q) : tCB (rKB e k) (tA e W fs) σ H Q := tA_then h fun P G Z0 H0 H ps vs S st t q => finB_ok S t st q
variable {es : List Expr} {fs : AF} {k : List D → Option PV} {x : Str} {p : Pos} {id T : String}
theorem de_callB (hc : CallR X (.builtin id) (rKB e k)) (hg : Gl X x) (hm : X.mg x = none) (hv : bootBuiltins x = some (.builtin id)) (ha : PA X (a :: es) (tA e W fs)) (hn : x ≠ "__name__" := by decide) (hdb : (x == ("__debug__" : Str)) = false := by decide)
    (he : starEach (a :: es) X.env = (false, eval a X.env) :: starEach es X.env := by rfl) (hpl : (backTo pos (starEach es X.env)).any (·.1) = false := by rfl) : PE X (.Call (.Name x p) (a :: es) [] pos) (tD e W (cCB k fs)) :=
  (pe_callB hc hg hm hv ha hn hdb he hpl).imp fun _ _ _ => tD_cb
theorem de_callTy (hc : CallR X (.type T) (rKB e k)) (hg : Gl X x) (hm : X.mg x = none) (hv : bootBuiltins x = some (.type T)) (ha : PA X (a :: es) (tA e W fs)) (hn : x ≠ "__name__" := by decide) (hdb : (x == ("__debug__" : Str)) = false := by decide)
    (he : starEach (a :: es) X.env = (false, eval a X.env) :: starEach es X.env := by rfl) (hpl : (backTo pos (starEach es X.env)).any (·.1) = false := by rfl) : PE X (.Call (.Name x p) (a :: es) [] pos) (tD e W (cCB k fs)) :=
  (pe_callTy hc hg hm hv ha hn hdb he hpl).imp fun _ _ _ => tD_cb
theorem RpBs.one {d : D} {vs : List V} (h : RpBs e Z H [d] vs) : ∃ v, vs = [v] ∧ RpB e Z H d v := by
  obtain ⟨v, r, rfl, h1, h2⟩ := h
  cases h2
  exact ⟨v, rfl, h1⟩
theorem RpBs.two {d d' : D} {vs : List V} (h : RpBs e Z H [d, d'] vs) : ∃ v u, vs = [v, u] ∧ RpB e Z H d v ∧ RpB e Z H d' u := by
  obtain ⟨v, r, rfl, h1, h2⟩ := h
  obtain ⟨u, rfl, h3⟩ := h2.one
  exact ⟨v, u, rfl, h1, h3⟩
/-- a rule of the layer serves a table of data -/
theorem callK {f : Value} {k : List D → Option PV}
    (h : ∀ (pins : List (Addr × Obj)) (s : Shared) (σ : L2.St) (H : Hp) (xs : List V) (us : List Value) (Q : VK) (Z : Zo) (ds : List D) (r : PV), Inv X pins σ H s → Vals xs us → (∀ a, Z a → H a ≠ none) → RpBs e Z H ds xs → k ds = some r → (∀ v H1, Out e Z H r v H1 → Q v H1) →
      wpAny (model X.prog X.w) X.A (call f us) (EP X pins σ Q) X.xe s) : CallR X f (rKB e k) := by
  intro pins s σ H xs us Q I rx hq
  obtain ⟨Z, ds, r, zl, r1, hk, q⟩ := hq
  exact h pins s σ H xs us Q Z ds r I rx zl r1 hk q
def kLen : List D → Option PV
  | [.lst ds] => some (.val (.int ds.length))
  | [.fz ds] => some (.val (.int ds.length))
  | [.tup ds] => some (.val (.int ds.length))
  | [.dk ks _] => some (.val (.int ks.length))
  | [.dt ks _] => some (.val (.int ks.length))
  | [.str x] => if x.length ≤ sizeLine then some (.val (.int x.length)) else none
  | _ => none
theorem bLen (hk : X.K = e.K) : CallR X (.builtin "len") (rKB e kLen) := by
  refine callK fun pins s σ H xs us Q Z ds r I rx zl r0 h q => ?_
  unfold kLen at h
  split at h
  · obtain ⟨v, rfl, r1⟩ := r0.one
    obtain ⟨a, vs, rfl, h1, h2⟩ := r1.lst
    cases h
    exact call_len_seq pins s σ H _ us Q I rx ⟨a, vs, rfl, .inl (SqL.of h1), by rw [h2.length]; exact q _ _ (Out.scal fun _ _ => rfl)⟩
  · obtain ⟨v, rfl, r1⟩ := r0.one
    obtain ⟨a, vs, rfl, h1, h2⟩ := r1.fz
    cases h
    exact call_len_seq pins s σ H _ us Q I rx ⟨a, vs, rfl, .inl (hk ▸ h1), by rw [h2.length]; exact q _ _ (Out.scal fun _ _ => rfl)⟩
  · obtain ⟨v, rfl, r1⟩ := r0.one
    obtain ⟨a, vs, rfl, h1, h2⟩ := r1.tup
    cases h
    exact call_len_seq pins s σ H _ us Q I rx ⟨a, vs, rfl, .inr (hk ▸ h1), by rw [h2.length]; exact q _ _ (Out.scal fun _ _ => rfl)⟩
  · obtain ⟨v, rfl, r1⟩ := r0.one
    obtain ⟨a, vs, rfl, h1, h2, h3⟩ := r1.dk
    cases h
    subst h2
    exact call_lenD pins s σ H _ us Q I rx ⟨a, vs, rfl, h1, q _ _ (by rw [List.length_map]; exact Out.scal fun _ _ => rfl)⟩
  · obtain ⟨v, rfl, r1⟩ := r0.one
    obtain ⟨a, vs, rfl, h1, h2, h3⟩ := r1.dt
    cases h
    subst h2
    exact call_len_dT pins s σ H _ us Q I rx ⟨a, vs, rfl, h1, q _ _ (by rw [List.length_map]; exact Out.scal fun _ _ => rfl)⟩
  · obtain ⟨v, rfl, r1⟩ := r0.one
    cases r1.str
    split at h
    · cases h
      exact call_len_str pins s σ H _ us Q I rx ⟨_, rfl, by assumption, q _ _ (Out.scal fun _ _ => rfl)⟩
    · cases h
  · cases h
def kIntC : List D → Option PV
  | [.int i] => some (.val (.int i))
  | [.bl b] => some (.val (.int (if b then 1 else 0)))
  | _ => none
theorem bInt : CallR X (.type "int") (rKB e kIntC) := by
  refine callK fun pins s σ H xs us Q Z ds r I rx zl r0 h q => ?_
  unfold kIntC at h
  split at h
  · obtain ⟨v, rfl, r1⟩ := r0.one
    cases r1.int; cases h
    exact call_int1 pins s σ H _ us Q I rx (.inl ⟨_, rfl, q _ _ (Out.scal fun _ _ => rfl)⟩)
  · obtain ⟨v, rfl, r1⟩ := r0.one
    cases r1.bl; cases h
    exact call_int1 pins s σ H _ us Q I rx (.inr ⟨_, rfl, q _ _ (Out.scal fun _ _ => rfl)⟩)
  · cases h
def kList : List D → Option PV
  | [.lst ds] => some (.fr (.lst ds))
  | [.fz ds] => some (.fr (.lst ds))
  | [.tup ds] => some (.fr (.lst ds))
  | _ => none
theorem bList (hk : X.K = e.K) : CallR X (.type "list") (rKB e kList) := by
  refine callK fun pins s σ H xs us Q Z ds r I rx zl r0 h q => ?_
  unfold kList at h
  split at h
  · obtain ⟨v, rfl, r1⟩ := r0.one
    obtain ⟨a, vs, rfl, h1, h2⟩ := r1.lst
    cases h
    exact call_list_of pins s σ H _ us Q I rx ⟨a, vs, rfl, .inl (SqL.of h1), fun p hp => q _ _ (Out.newL hp h2)⟩
  · obtain ⟨v, rfl, r1⟩ := r0.one
    obtain ⟨a, vs, rfl, h1, h2⟩ := r1.fz
    cases h
    exact call_list_of pins s σ H _ us Q I rx ⟨a, vs, rfl, .inl (hk ▸ h1), fun p hp => q _ _ (Out.newL hp h2)⟩
  · obtain ⟨v, rfl, r1⟩ := r0.one
    obtain ⟨a, vs, rfl, h1, h2⟩ := r1.tup
    cases h
    exact call_list_of pins s σ H _ us Q I rx ⟨a, vs, rfl, .inr (hk ▸ h1), fun p hp => q _ _ (Out.newL hp h2)⟩
  · cases h
def kTuple : List D → Option PV
  | [.lst ds] => some (.val (.tup ds))
  | [.tup ds] => some (.val (.tup ds))
  | _ => none
theorem bTuple (hk : X.K = e.K) : CallR X (.type "tuple") (rKB e kTuple) := by
  refine callK fun pins s σ H xs us Q Z ds r I rx zl r0 h q => ?_
  unfold kTuple at h
  split at h
  · obtain ⟨v, rfl, r1⟩ := r0.one
    obtain ⟨a, vs, rfl, h1, h2⟩ := r1.lst
    cases h
    exact call_tuple_of pins s σ H _ us Q I rx ⟨a, vs, rfl, .inl ⟨SqL.of h1, fun p hp => q _ _ (Out.newT zl hp h2)⟩⟩
  · obtain ⟨v, rfl, r1⟩ := r0.one
    obtain ⟨a, vs, rfl, h1, h2⟩ := r1.tup
    cases h
    exact call_tuple_of pins s σ H _ us Q I rx ⟨a, vs, rfl, .inr ⟨hk ▸ h1, q _ _ ⟨Grow.refl H, r1.elim id fun ⟨_, _, z⟩ => z.elim⟩⟩⟩
  · cases h
/-! ### isinstance -/
inductive Ty where
  | b (n : String) | c (n : Nat)
  deriving DecidableEq
def Ty.v (e : Ev) : Ty → Value
  | .b n => .type n
  | .c n => .ref (e.ga n)
def tyD : D → Option Ty
  | .non => some (.b "NoneType")
  | .bl _ => some (.b "bool")
  | .int _ => some (.b "int")
  | .str _ => some (.b "str")
  | .lst _ => some (.b "list")
  | .tup _ => some (.b "tuple")
  | .dk _ _ => some (.b "dict")
  | .dt _ _ => some (.b "dict")
  | .obj c _ _ => some (.c c)
  | _ => none
def clD : D → Option Ty
  | .ty n => some (.b n)
  | .st x => some (.c x)
  | _ => none
def clDs : List D → Option (List Ty)
  | [] => some []
  | d :: ds => match clD d, clDs ds with
    | some t, some ts => some (t :: ts)
    | _, _ => none
/-- the answers that are known -/
def isi1 (tb : List (Ty × Ty × Bool)) (t u : Ty) : Option Bool := if t = u then some true else (tb.find? fun r => decide (r.1 = t ∧ r.2.1 = u)).map (·.2.2)
def isiAny (tb : List (Ty × Ty × Bool)) (t : Ty) : List Ty → Option Bool
  | [] => some false
  | u :: us => match isi1 tb t u with
    | some true => some true
    | some false => isiAny tb t us
    | none => none
def kIsi (tb : List (Ty × Ty × Bool)) : List D → Option PV
  | [d, .tup cs] => match tyD d, clDs cs with
    | some t, some us => (isiAny tb t us).map fun b => .val (.bl b)
    | _, _ => none
  | [d, c] => match tyD d, clD c with
    | some t, some u => (isi1 tb t u).map fun b => .val (.bl b)
    | _, _ => none
  | _ => none
/-- what the text must tell of a class for isinstance -/
structure IsC (e : Ev) (c : Nat) : Prop where
  cl : Cls e.K (e.ga c)
  ha : PySem.W.findIn e.K (.ref (e.ga c)) "__class__" = some (some (.builtin "object.__class__"))
  hn : PySem.W.specialIn e.K (.builtin "object.__class__") "__get__" = some (some (.builtin "getset_descriptor.__get__"))
  htk : PySem.W.takesIn e.K (.builtin "object.__class__") = some true
  hm : PySem.W.mroIn e.K (e.ga c) (.type "object") = some true
/-- the table is right, its classes are known -/
structure IsiOk (e : Ev) (tb : List (Ty × Ty × Bool)) (cs : List Nat) : Prop where
  one : ∀ r ∈ tb, PySem.W.kitOne e.K (r.1.v e) (r.2.1.v e) = some r.2.2
  cls : ∀ c ∈ cs, IsC e c
theorem isi1_ok {tb : List (Ty × Ty × Bool)} {cs : List Nat} {t u : Ty} {b : Bool} (T : IsiOk e tb cs) (h : isi1 tb t u = some b) : PySem.W.kitOne e.K (t.v e) (u.v e) = some b := by
  unfold isi1 at h
  split at h
  · rename_i q
    subst q; cases h
    unfold PySem.W.kitOne
    simp
  · cases q : tb.find? fun r => decide (r.1 = t ∧ r.2.1 = u) with
    | none => rw [q] at h; cases h
    | some r =>
      rw [q] at h; cases h
      have h1 := T.one r (List.mem_of_find?_eq_some q)
      have h2 := List.find?_some q
      simp only [decide_eq_true_eq] at h2
      rw [h2.1, h2.2] at h1
      exact h1
theorem isiAny_ok {tb : List (Ty × Ty × Bool)} {cs : List Nat} {t : Ty} (T : IsiOk e tb cs) : ∀ {us : List Ty} {b : Bool}, isiAny tb t us = some b → PySem.W.kitAny e.K (t.v e) (us.map (Ty.v e)) = some b
  | [], _, h => by cases h; rfl
  | u :: us, b, h => by
    unfold isiAny at h
    show (match PySem.W.kitOne e.K (t.v e) (u.v e) with | some true => some true | some false => PySem.W.kitAny e.K (t.v e) (us.map (Ty.v e)) | none => none) = some b
    cases q : isi1 tb t u with
    | none => rw [q] at h; cases h
    | some v =>
      rw [q] at h
      rw [isi1_ok T q]
      cases v
      · exact isiAny_ok T h
      · exact h
theorem clD_ok {d : D} {v : V} {t : Ty} (r : RpB e Z H d v) (h : clD d = some t) : ClsV v (t.v e) := by
  cases d with
  | st x =>
    rw [r.st]
    cases h
    exact .own _
  | ty n =>
    cases h
    have : v = .ty _ := r.elim id fun ⟨_, _, z⟩ => z.elim
    rw [this]
    exact .ty _
  | _ => cases h
theorem clDs_ok : ∀ {ds : List D} {vs : List V} {ts : List Ty}, Rps e Z H ds vs → clDs ds = some ts → Paired ClsV vs (ts.map (Ty.v e))
  | [], _, _, r, h => by cases r; cases h; exact .nil
  | d :: ds, _, ts, r, h => by
    obtain ⟨v, r', rfl, r1, r2⟩ := r
    unfold clDs at h
    split at h
    · rename_i t us q1 q2
      cases h
      exact .cons (clD_ok (.inl r1) q1) (clDs_ok r2 q2)
    · cases h
theorem tyD_ok {tb : List (Ty × Ty × Bool)} {cs : List Nat} {d : D} {v : V} {t : Ty} (T : IsiOk e tb cs) (hcs : ∀ c ns ds, d = .obj c ns ds → c ∈ cs) (r : RpB e Z H d v) (h : tyD d = some t) : TyX e.K H v (t.v e) := by
  cases d with
  | non => cases r.non; cases h; exact .base .non
  | bl b => cases r.bl; cases h; exact .base (.bl _)
  | int i => cases r.int; cases h; exact .base (.int _)
  | str x => cases r.str; cases h; exact .base (.str _)
  | lst ds =>
    obtain ⟨a, vs, rfl, h1, h2⟩ := r.lst
    cases h
    exact .base (.lst h1)
  | tup ds =>
    obtain ⟨a, vs, rfl, h1, h2⟩ := r.tup
    cases h
    rcases h1 with (h1 | ⟨o, h1⟩) | ⟨o, its, n, h3, h4, _⟩
    · exact .base (.tup h1)
    · exact .fTuple h1
    · exact .kTuple h3 h4
  | dk ks ds =>
    obtain ⟨a, vs, rfl, h1, h2, h3⟩ := r.dk
    cases h
    exact .base (.dK h1)
  | dt ks ds =>
    obtain ⟨a, vs, rfl, h1, h2, h3⟩ := r.dt
    cases h
    exact .base (.dT h1)
  | obj c ns ds =>
    obtain ⟨a, dx, fs, rfl, h1, h2, h3⟩ := r.obj
    cases h
    have C := T.cls c (hcs c ns ds rfl)
    exact .base (.ins h1 C.cl C.ha C.hn C.htk C.hm)
  | _ => cases h
/-- isinstance with the classes cs of objects told -/
def kIsiC (tb : List (Ty × Ty × Bool)) (cs : List Nat) : List D → Option PV := fun ds => match ds with
  | .obj c ns vs :: r => if cs.contains c then kIsi tb (.obj c ns vs :: r) else none
  | ds => kIsi tb ds
theorem bIsi {tb : List (Ty × Ty × Bool)} {cs : List Nat} (hk : X.K = e.K) (T : IsiOk e tb cs) : CallR X (.builtin "isinstance") (rKB e (kIsiC tb cs)) := by
  refine callK fun pins s σ H xs us Q Z ds r I rx zl r0 h q => ?_
  have hcs : ∀ d r', ds = d :: r' → ∀ c ns vs, d = .obj c ns vs → c ∈ cs := by
    rintro d r' rfl c ns vs rfl
    unfold kIsiC at h
    simp only at h
    split at h
    · rename_i q; simpa using q
    · cases h
  have h' : kIsi tb ds = some r := by
    unfold kIsiC at h
    split at h
    · split at h
      · exact h
      · cases h
    · exact h
  unfold kIsi at h'
  split at h'
  · rename_i d cs'
    obtain ⟨v, u, rfl, r1, r2⟩ := r0.two
    split at h'
    · rename_i t ts q1 q2
      obtain ⟨a, vs, rfl, h1, h2⟩ := r2.tup
      cases q3 : isiAny tb t ts with
      | none => rw [q3] at h'; cases h'
      | some b =>
        rw [q3] at h'; cases h'
        have ty := tyD_ok T (hcs d _ rfl) r1 q1
        have k := clDs_ok h2 q2
        have kb := isiAny_ok T q3
        rcases h1 with (h1 | ⟨o, h1⟩) | ⟨⟨oc, od, dt, osl⟩, its, n, h3, h4, h5, h6, h7⟩
        · exact call_isiT pins s σ H _ us Q I rx ⟨v, a, vs, _, _, b, rfl, h1, k, hk ▸ ty, hk ▸ kb, q _ _ (Out.scal fun _ _ => rfl)⟩
        · obtain ⟨u1, u2, rfl, x1, x2⟩ := vals2 rx
          cases (show u2 = Value.ref a from x2)
          obtain ⟨PP, ZZ, pp, hx⟩ := kit_of I x1 (hk ▸ ty)
          obtain ⟨_, _, its, rv, o, g1, g2, n, g3⟩ := (show ObjOk X.prog X.w H s.heap a (.frz _ (.tup vs)) from I.hok a _ h1)
          have e3 := ClsV.all k rv
          subst e3
          obtain ⟨oc, od, dt, sl⟩ := o
          simp only at g2 g3
          subst g2 g3
          exact PySem.W.kia_tup ZZ I.kIn pp g1 (hk ▸ kb) hx fun tk => ⟨.bl b, H, I.tok tk, rfl, q _ _ (Out.scal fun _ _ => rfl)⟩
        · simp only at h4 h5
          subst h4 h5
          have e3 := ClsV.all k h7
          refine call_isiK pins s σ H _ us Q I rx ⟨v, a, od, ts.map (Ty.v e), n, osl, _, b, rfl, ?_, hk ▸ ty, hk ▸ kb, q _ _ (Out.scal fun _ _ => rfl)⟩
          rw [hk, h3, ← e3, Array.toArray_toList]
    · cases h'
  · rename_i d c _
    obtain ⟨v, u, rfl, r1, r2⟩ := r0.two
    split at h'
    · rename_i t t' q1 q2
      cases q3 : isi1 tb t t' with
      | none => rw [q3] at h'; cases h'
      | some b =>
        rw [q3] at h'; cases h'
        exact call_isi pins s σ H _ us Q I rx ⟨v, u, _, _, b, rfl, clD_ok r2 q2, hk ▸ tyD_ok T (hcs d _ rfl) r1 q1, hk ▸ isi1_ok T q3, q _ _ (Out.scal fun _ _ => rfl)⟩
    · cases h'
  · cases h'
end
end PD

/-! PD7: what a def promises, calls -/
namespace PD
open PySem PySem.Spec L2

/-- a def: from its parameters' slots to its value and what became of the slots that were lent -/
abbrev MF := List Sl → R PV
def spD (e : Ev) (n : Nat) (m : MF) : Sp := fun vs H Q E => vs.length = n ∧ ∃ P A, P.H0 = H ∧ P.pv = vs ∧ (∀ (i : Nat) (d : D), A[i]? ≠ some (.own d)) ∧ Sat e P A (vs.map some) H ∧
  PostR e (fun c d _ H => E c d H) P (vs.map some) (Zn P A (vs.map some)) H (fun pv A1 => ∀ v H1, Res e P (vs.map some) (Zn P A (vs.map some)) H pv A1 v H1 → Q v H1) (m A)

section
variable {e : Ev} {W : WX} {P : Pre} {σ : L2.St} {G G1 G2 : List Sl} {H H1 H2 : Hp} {Z : Zo} {X : Cx}

/-- what may be called: the code at f, run with values -/
def Clb (X : Cx) (W : WX) (f : Addr) (sp : Sp) : Prop :=
  ∀ (pins : List (Addr × Obj)) (s : Shared) (σ : L2.St) (H : Hp) (vs : List V) (us : List Value) (Q : VK), Inv X pins σ H s → Vals vs us → sp vs H Q (WE W σ) → wpAny (model X.prog X.w) X.A (call (.ref f) us) (EP X pins σ Q) X.xe s
theorem clb_of {k : Nat} {f : Addr} {fd : FuncData} {ps : List Str} {sp : Sp} (F : FnOk X.prog X.w X.K X.mg X.base (L2.CX X.prog X.w) k f fd ps sp) (hr : Room k X.A) (hb : Binds X.K fd ps []) (tk : Takes X W) : Clb X W f sp :=
  fun pins s σ H vs us Q I r h => run_fnS (E := WE W) F hr hb (passAt tk σ) I r h

/-! ### the arguments of a call -/
/-- how an argument is handed over: as plain data; lent for reading; lent for writing -/
inductive Md where
  | e | b | m
  deriving DecidableEq
/-- first all that goes out -/
def outs : List Md → List PV → List Sl → Option (List PV × List Sl)
  | [], [], G => some ([], G)
  | .e :: ms, p :: ps, G => match esc p G with
    | some (d, G1) => (match outs ms ps G1 with
      | some (qs, G2) => some (.val d :: qs, G2)
      | none => none)
    | none => none
  | _ :: ms, p :: ps, G => match outs ms ps G with
    | some (qs, G2) => some (p :: qs, G2)
    | none => none
  | _, _, _ => none
/-- the slots that are lent for writing -/
def mIx : List Md → List PV → List Nat
  | .m :: ms, .sl i :: ps => i :: mIx ms ps
  | _ :: ms, _ :: ps => mIx ms ps
  | _, _ => []
def bIx : List Md → List PV → List Nat
  | .b :: ms, .sl i :: ps => i :: bIx ms ps
  | _ :: ms, _ :: ps => bIx ms ps
  | _, _ => []
def toSl (G : List Sl) : Md → PV → Option Sl
  | .m, .sl i => match G[i]? with
    | some (.own d) => some (.lnd d)
    | some (.lnd d) => some (.lnd d)
    | _ => none
  | .m, _ => none
  | _, .val d => some (.imm d)
  | .b, .fr d => some (.imm d)
  | .b, .sl i => match G[i]? with
    | some (.imm d) => some (.imm d)
    | some (.own d) => some (.bor d)
    | some (.lnd d) => some (.bor d)
    | some (.bor d) => some (.bor d)
    | some (.exn c ns ds) => some (.exn c ns ds)
    | _ => none
  | _, _ => none
def toSls (G : List Sl) : List Md → List PV → Option (List Sl)
  | [], [] => some []
  | m :: ms, p :: ps => match toSl G m p, toSls G ms ps with
    | some s, some ss => some (s :: ss)
    | _, _ => none
  | _, _ => none
/-- what was lent comes back -/
def backs : List Md → List PV → List Sl → List Sl → Option (List Sl)
  | .m :: ms, .sl i :: ps, .lnd d :: ss, G => match G[i]? with
    | some (.own _) => backs ms ps ss (G.set i (.own d))
    | some (.lnd _) => backs ms ps ss (G.set i (.lnd d))
    | _ => none
  | .m :: _, .sl _ :: _, _ :: _, _ => none
  | _ :: ms, _ :: ps, _ :: ss, G => backs ms ps ss G
  | _, _, _, G => some G
def okIx (ms is : List Nat) : Bool := ms.Nodup && ms.all fun i => !is.contains i
def noOwn (A : List Sl) : Bool := A.all fun s => match s with
  | .own _ => false
  | _ => true
theorem noOwn_ok {A : List Sl} (h : noOwn A = true) : ∀ (i : Nat) (d : D), A[i]? ≠ some (.own d) := fun i d hi => by
  have := List.all_eq_true.mp h _ (List.mem_of_getElem? hi)
  cases this
def finC (mds : List Md) (qs : List PV) (G1 : List Sl) (r : R PV) : R PV := match r with
  | .ok (.val d) A1 => if noOwn A1 then (match backs mds qs A1 G1 with
    | some G2 => .ok (.val d) G2
    | none => .bad) else .bad
  | .ok (.fr d) A1 => if noOwn A1 then (match backs mds qs A1 G1 with
    | some G2 => .ok (.fr d) G2
    | none => .bad) else .bad
  | .ex c ns ds A1 => if noOwn A1 then (match backs mds qs A1 G1 with
    | some G2 => .ex c ns ds G2
    | none => .bad) else .bad
  | _ => .bad
def runC (m : MF) (mds : List Md) (ps : List PV) (G : List Sl) : R PV := match outs mds ps G with
  | some (qs, G1) => if okIx (mIx mds qs) (bIx mds qs) then (match toSls G1 mds qs with
    | some A => finC mds qs G1 (m A)
    | none => .bad) else .bad
  | none => .bad

theorem Tmps.len : ∀ {ps : List PV} {vs : List V}, Tmps e P σ G H ps vs → ps.length = vs.length
  | [], _, t => by cases t; rfl
  | p :: ps, _, t => by
    obtain ⟨v, r, rfl, _, t2⟩ := t
    simp [Tmps.len t2]
theorem outs_ok : ∀ {mds : List Md} {ps qs : List PV} {vs : List V} {G G1 : List Sl}, Sat e P G σ H → Tmps e P σ G H ps vs → outs mds ps G = some (qs, G1) → Sat e P G1 σ H ∧ Step (Zn P G σ) H (Zn P G1 σ) H ∧ Tmps e P σ G1 H qs vs ∧ mds.length = qs.length
  | [], [], _, _, _, _, S, t, h => by cases h; exact ⟨S, Step.refl _ _, t, rfl⟩
  | .e :: ms, p :: ps, _, _, _, _, S, t, h => by
    obtain ⟨v, r, rfl, t1, t2⟩ := t
    unfold outs at h
    split at h
    · rename_i d G1 q1
      obtain ⟨S1, st1, r1⟩ := esc_ok S t1 q1
      split at h
      · rename_i qs G2 q2
        cases h
        obtain ⟨S2, st2, r2, l⟩ := outs_ok S1 (t2.step st1) q2
        exact ⟨S2, st1.trans st2, ⟨v, r, rfl, Rp.step st2 _ _ r1, r2⟩, by simp [l]⟩
      · cases h
    · cases h
  | .b :: ms, p :: ps, _, _, _, _, S, t, h => by
    obtain ⟨v, r, rfl, t1, t2⟩ := t
    unfold outs at h
    split at h
    · rename_i qs G2 q2
      cases h
      obtain ⟨S2, st2, r2, l⟩ := outs_ok S t2 q2
      exact ⟨S2, st2, ⟨v, r, rfl, t1.step st2, r2⟩, by simp [l]⟩
    · cases h
  | .m :: ms, p :: ps, _, _, _, _, S, t, h => by
    obtain ⟨v, r, rfl, t1, t2⟩ := t
    unfold outs at h
    split at h
    · rename_i qs G2 q2
      cases h
      obtain ⟨S2, st2, r2, l⟩ := outs_ok S t2 q2
      exact ⟨S2, st2, ⟨v, r, rfl, t1.step st2, r2⟩, by simp [l]⟩
    · cases h
  | [], _ :: _, _, _, _, _, _, _, h => by simp [outs] at h
  | _ :: _, [], _, _, _, _, _, _, h => by simp [outs] at h
/-- one argument -/
theorem toSls_get : ∀ {mds : List Md} {ps : List PV} {vs : List V} {A : List Sl} {G : List Sl}, Tmps e P σ G H ps vs → toSls G mds ps = some A → A.length = vs.length ∧ ∀ (j : Nat) (s : Sl), A[j]? = some s → ∃ md p v, mds[j]? = some md ∧ ps[j]? = some p ∧ vs[j]? = some v ∧ Tmp e P σ G H p v ∧ toSl G md p = some s
  | [], [], _, _, _, t, h => by cases h; cases t; exact ⟨rfl, fun j s h => by simp at h⟩
  | m :: ms, p :: ps, _, A, G, t, h => by
    obtain ⟨v, r, rfl, t1, t2⟩ := t
    unfold toSls at h
    split at h
    · rename_i s ss q1 q2
      cases h
      obtain ⟨l, g⟩ := toSls_get t2 q2
      refine ⟨by simp [l], fun j u hj => ?_⟩
      cases j with
      | zero => simp at hj; subst hj; exact ⟨m, p, v, rfl, rfl, rfl, t1, q1⟩
      | succ j => simpa using g j u (by simpa using hj)
    · cases h
  | [], _ :: _, _, _, _, _, h => by simp [toSls] at h
  | _ :: _, [], _, _, _, _, h => by simp [toSls] at h
theorem toSl_not_own {G : List Sl} {m : Md} {p : PV} {s : Sl} (h : toSl G m p = some s) : ∀ d, s ≠ .own d := by
  unfold toSl at h
  split at h
  · split at h <;> cases h <;> exact fun _ z => by cases z
  · cases h
  · cases h; exact fun _ z => by cases z
  · cases h; exact fun _ z => by cases z
  · split at h <;> cases h <;> exact fun _ z => by cases z
  · cases h
theorem toSl_lnd {G : List Sl} {m : Md} {p : PV} {d : D} (h : toSl G m p = some (.lnd d)) : m = .m ∧ ∃ i, p = .sl i ∧ (G[i]? = some (.own d) ∨ G[i]? = some (.lnd d)) := by
  unfold toSl at h
  split at h
  · split at h <;> cases h
    · exact ⟨rfl, _, rfl, .inl (by assumption)⟩
    · exact ⟨rfl, _, rfl, .inr (by assumption)⟩
  · cases h
  · cases h
  · cases h
  · split at h <;> cases h
  · cases h
theorem toSl_m {G : List Sl} {p : PV} {s : Sl} (h : toSl G .m p = some s) : ∃ i d, p = .sl i ∧ s = .lnd d ∧ (G[i]? = some (.own d) ∨ G[i]? = some (.lnd d)) := by
  cases p with
  | sl i =>
    simp only [toSl] at h
    split at h <;> cases h
    · exact ⟨i, _, rfl, rfl, .inl (by assumption)⟩
    · exact ⟨i, _, rfl, rfl, .inr (by assumption)⟩
  | val d => simp [toSl] at h
  | fr d => simp [toSl] at h
theorem mIx_mem : ∀ {mds : List Md} {ps : List PV} {j i : Nat}, mds[j]? = some .m → ps[j]? = some (.sl i) → i ∈ mIx mds ps
  | [], _, _, _, h, _ => by simp at h
  | _ :: _, [], _, _, _, h => by simp at h
  | m :: ms, p :: ps, 0, i, h1, h2 => by
    simp at h1 h2; subst h1; subst h2
    simp [mIx]
  | m :: ms, p :: ps, j + 1, i, h1, h2 => by
    have ih := mIx_mem (mds := ms) (ps := ps) (j := j) (i := i) (by simpa using h1) (by simpa using h2)
    unfold mIx
    split
    · rename_i e1 e2; cases e1; cases e2; exact List.mem_cons_of_mem _ ih
    · rename_i e1 e2; cases e1; cases e2; exact ih
    · rename_i h; exact absurd rfl (h m ms p ps rfl)
theorem mIx_inj : ∀ {mds : List Md} {ps : List PV} {j k i : Nat}, (mIx mds ps).Nodup → mds[j]? = some .m → ps[j]? = some (.sl i) → mds[k]? = some .m → ps[k]? = some (.sl i) → j = k
  | [], _, _, _, _, _, h, _, _, _ => by simp at h
  | _ :: _, [], _, _, _, _, _, h, _, _ => by simp at h
  | m :: ms, p :: ps, 0, 0, i, _, _, _, _, _ => rfl
  | m :: ms, p :: ps, 0, k + 1, i, nd, h1, h2, h3, h4 => by
    simp at h1 h2; subst h1; subst h2
    simp only [mIx] at nd
    exact absurd (mIx_mem (by simpa using h3) (by simpa using h4)) (List.nodup_cons.mp nd).1
  | m :: ms, p :: ps, j + 1, 0, i, nd, h1, h2, h3, h4 => by
    simp at h3 h4; subst h3; subst h4
    simp only [mIx] at nd
    exact absurd (mIx_mem (by simpa using h1) (by simpa using h2)) (List.nodup_cons.mp nd).1
  | m :: ms, p :: ps, j + 1, k + 1, i, nd, h1, h2, h3, h4 => by
    have nd' : (mIx ms ps).Nodup := by
      unfold mIx at nd
      split at nd
      · rename_i e1 e2; cases e1; cases e2; exact (List.nodup_cons.mp nd).2
      · rename_i e1 e2; cases e1; cases e2; exact nd
      · rename_i h; exact absurd rfl (h m ms p ps rfl)
    have := mIx_inj (mds := ms) (ps := ps) (j := j) (k := k) (i := i) nd' (by simpa using h1) (by simpa using h2) (by simpa using h3) (by simpa using h4)
    omega
theorem bIx_mem : ∀ {mds : List Md} {ps : List PV} {j i : Nat}, mds[j]? = some .b → ps[j]? = some (.sl i) → i ∈ bIx mds ps
  | [], _, _, _, h, _ => by simp at h
  | _ :: _, [], _, _, _, h => by simp at h
  | m :: ms, p :: ps, 0, i, h1, h2 => by
    simp at h1 h2; subst h1; subst h2
    simp [bIx]
  | m :: ms, p :: ps, j + 1, i, h1, h2 => by
    have ih := bIx_mem (mds := ms) (ps := ps) (j := j) (i := i) (by simpa using h1) (by simpa using h2)
    unfold bIx
    split
    · rename_i e1 e2; cases e1; cases e2; exact List.mem_cons_of_mem _ ih
    · rename_i e1 e2; cases e1; cases e2; exact ih
    · rename_i h; exact absurd rfl (h m ms p ps rfl)

/-- where a slot's object stands -/
theorem Sat.slotAddr (S : Sat e P G σ H) {i : Nat} {d : D} (h : G[i]? = some (.own d) ∨ G[i]? = some (.lnd d) ∨ G[i]? = some (.bor d)) : ∃ a, σ[i]? = some (some (.ref a)) ∧ Zn P G σ a ∧ At e (Zn P G σ) H d a := by
  rcases h with h | h | h
  · obtain ⟨a, h1, _, _, h4⟩ := S.slot _ _ h
    exact ⟨a, h1, .inr ⟨i, d, h, h1⟩, h4⟩
  · obtain ⟨a, h1, _, _, h3, h4⟩ := S.slot _ _ h
    exact ⟨a, h1, .inl h3, h4⟩
  · obtain ⟨a, h1, h2, _, h4⟩ := S.slot _ _ h
    exact ⟨a, h1, .inl h2, h4⟩
/-- different slots, one of them to be written: different objects -/
theorem Sat.apart (S : Sat e P G σ H) {i j : Nat} {d d' : D} {a b : Addr} (hi : G[i]? = some (.own d) ∨ G[i]? = some (.lnd d)) (hj : G[j]? = some (.own d') ∨ G[j]? = some (.lnd d') ∨ G[j]? = some (.bor d')) (ha : σ[i]? = some (some (.ref a))) (hb : σ[j]? = some (some (.ref b))) (ne : i ≠ j) : a ≠ b := by
  rintro rfl
  rcases hi with hi | hi
  · obtain ⟨a', h1, _, h3, _⟩ := S.slot _ _ hi
    rw [ha] at h1; cases h1
    rcases hj with hj | hj | hj
    · exact ne (S.dist i j d d' a hi hj ha hb)
    · obtain ⟨b', g1, _, _, g3, _⟩ := S.slot _ _ hj
      rw [hb] at g1; cases g1
      exact h3 g3
    · obtain ⟨b', g1, g3, _⟩ := S.slot _ _ hj
      rw [hb] at g1; cases g1
      exact h3 g3
  · obtain ⟨a', h1, h2, h3, h4, _⟩ := S.slot _ _ hi
    rw [ha] at h1; cases h1
    rcases hj with hj | hj | hj
    · obtain ⟨b', g1, _, g3, _⟩ := S.slot _ _ hj
      rw [hb] at g1; cases g1
      exact g3 h4
    · obtain ⟨b', g1, g2, g3, _⟩ := S.slot _ _ hj
      rw [hb] at g1; cases g1
      exact ne (S.par i j d d' a hi hj ha hb)
    · obtain ⟨b', g1, _, g3, _⟩ := S.slot _ _ hj
      rw [hb] at g1; cases g1
      exact g3 (.inl h3)
/-- the callee's entry -/
def preC (P : Pre) (G : List Sl) (σ : L2.St) (H : Hp) (mds : List Md) (vs : List V) : Pre := ⟨H, Zn P G σ, fun a => ∃ j : Nat, mds[j]? = some .m ∧ vs[j]? = some (.ref a) ∧ Zn P G σ a, vs, fun _ => False⟩
theorem zn_noOwn {A : List Sl} {τ : L2.St} (h : ∀ (i : Nat) (d : D), A[i]? ≠ some (.own d)) : ∀ a, Zn P A τ a → P.Z0 a := fun a z => z.elim id fun ⟨i, d, h1, _⟩ => absurd h1 (h i d)
theorem enter {mds : List Md} {qs : List PV} {vs : List V} {A : List Sl} (S : Sat e P G σ H) (t : Tmps e P σ G H qs vs) (hl : mds.length = qs.length) (ok : okIx (mIx mds qs) (bIx mds qs) = true) (h : toSls G mds qs = some A)
    : Sat e (preC P G σ H mds vs) A (vs.map some) H ∧ ∀ (i : Nat) (d : D), A[i]? ≠ some (.own d) := by
  obtain ⟨la, g⟩ := toSls_get t h
  have hm : ∀ (j : Nat), mds[j]? = some .m → ∃ i, qs[j]? = some (.sl i) := fun j hj => by
    have hq : j < qs.length := hl ▸ (List.getElem?_eq_some_iff.mp hj).1
    have ha : j < A.length := by rw [la, ← Tmps.len t]; exact hq
    obtain ⟨md, p, v, h1, h2, _, _, h5⟩ := g j _ (List.getElem?_eq_getElem ha)
    rw [hj] at h1; cases h1
    obtain ⟨i, d, rfl, _⟩ := toSl_m h5
    exact ⟨i, h2⟩
  have no : ∀ (i : Nat) (d : D), A[i]? ≠ some (.own d) := fun i d hi => by
    obtain ⟨md, p, v, _, _, _, _, q⟩ := g i _ hi
    exact toSl_not_own q d rfl
  have ok' : (mIx mds qs).Nodup ∧ ∀ i ∈ mIx mds qs, i ∉ bIx mds qs := by
    unfold okIx at ok
    simp only [Bool.and_eq_true, decide_eq_true_eq, List.all_eq_true, Bool.not_eq_true'] at ok
    exact ⟨ok.1, fun i hi hb => by have := ok.2 i hi; rw [List.contains_iff_mem.mpr hb] at this; cases this⟩
  refine ⟨⟨by simp [la], fun j s hj => ?_, fun i j d d' a h1 => absurd h1 (no i d), fun i j d d' a h1 h2 h3 h4 => ?_, fun a o h _ => h, fun a h => h, fun a z => S.zlive z, fun a ⟨_, _, _, z⟩ => z⟩, no⟩
  · obtain ⟨md, p, v, h1, h2, h3, h4, h5⟩ := g j s hj
    have hv : (vs.map some)[j]? = some (some v) := by rw [List.getElem?_map, h3]; rfl
    have hz : ∀ a, Zn (preC P G σ H mds vs) A (vs.map some) a → Zn P G σ a := zn_noOwn no
    have stz : Step (Zn P G σ) H (Zn (preC P G σ H mds vs) A (vs.map some)) H := (Step.refl _ _).zone hz
    unfold toSl at h5
    split at h5
    · rename_i i
      have h4 : σ[i]? = some (some v) := h4
      have mo : ∀ {d : D}, (G[i]? = some (.own d) ∨ G[i]? = some (.lnd d)) → SlOk e (preC P G σ H mds vs) (Zn (preC P G σ H mds vs) A (vs.map some)) H (vs.map some) j (.lnd d) := fun {d} hd => by
        obtain ⟨a, b1, b2, b3⟩ := S.slotAddr (hd.elim .inl fun z => .inr (.inl z))
        rw [h4] at b1; cases b1
        exact ⟨a, hv, h3, ⟨j, h1, h3, b2⟩, b2, b3.step stz rfl⟩
      split at h5 <;> cases h5
      · exact mo (.inl (by assumption))
      · exact mo (.inr (by assumption))
    · cases h5
    · cases h5
      exact ⟨v, hv, Rp.zone h4 hz⟩
    · cases h5
      exact ⟨v, hv, Rp.zone h4 hz⟩
    · rename_i i
      have h4 : σ[i]? = some (some v) := h4
      have bo : ∀ {d : D}, (G[i]? = some (.own d) ∨ G[i]? = some (.lnd d) ∨ G[i]? = some (.bor d)) → SlOk e (preC P G σ H mds vs) (Zn (preC P G σ H mds vs) A (vs.map some)) H (vs.map some) j (.bor d) := fun {d} hd => by
        obtain ⟨a, b1, b2, b3⟩ := S.slotAddr hd
        rw [h4] at b1; cases b1
        refine ⟨a, hv, b2, ?_, b3.step stz rfl⟩
        rintro (⟨k, k1, k2, _⟩ | ⟨⟨⟩⟩)
        obtain ⟨i', hq⟩ := hm k k1
        have hk : k < A.length := by rw [la]; exact (List.getElem?_eq_some_iff.mp k2).1
        obtain ⟨md', p', v', c1, c2, c3, c4, c5⟩ := g k A[k] (List.getElem?_eq_getElem hk)
        rw [k1] at c1; cases c1
        rw [hq] at c2; cases c2
        rw [k2] at c3; cases c3
        have c4 : σ[i']? = some (some (.ref a)) := c4
        have nei : i' ≠ i := fun z => ok'.2 i' (mIx_mem k1 hq) (by rw [z]; exact bIx_mem h1 h2)
        obtain ⟨i'', d'', e1, e2, e3⟩ := toSl_m c5
        cases e1
        exact S.apart e3 hd c4 h4 nei rfl
      split at h5 <;> cases h5
      · rename_i q
        obtain ⟨v', b1, b2⟩ := S.slot _ _ q
        rw [h4] at b1; cases b1
        exact ⟨v, hv, b2.zone hz⟩
      · exact bo (.inl (by assumption))
      · exact bo (.inr (.inl (by assumption)))
      · exact bo (.inr (.inr (by assumption)))
      · rename_i q
        obtain ⟨v', b1, b2⟩ := S.slot _ _ q
        rw [h4] at b1; cases b1
        exact ⟨_, hv, b2.step stz⟩
    · cases h5
  · obtain ⟨md, p, v, b1, b2, b3, b4, b5⟩ := g i _ h1
    obtain ⟨md', p', v', c1, c2, c3, c4, c5⟩ := g j _ h2
    obtain ⟨rfl, i1, rfl, o1⟩ := toSl_lnd b5
    obtain ⟨rfl, i2, rfl, o2⟩ := toSl_lnd c5
    rw [List.getElem?_map, b3] at h3
    rw [List.getElem?_map, c3] at h4
    cases h3; cases h4
    by_cases hi : i1 = i2
    · subst hi
      exact mIx_inj ok'.1 b1 b2 c1 c2
    · exact absurd rfl (S.apart o1 (o2.elim .inl fun z => .inr (.inl z)) b4 c4 hi)

theorem get_append' {α : Type} {l r : List α} {x : α} {i : Nat} (h : l[i]? = some x) : (l ++ r)[i]? = some x := by
  rw [List.getElem?_append_left (List.getElem?_eq_some_iff.mp h).1]; exact h
theorem mIx_of : ∀ {mds : List Md} {ps : List PV} {i : Nat}, i ∈ mIx mds ps → ∃ j : Nat, mds[j]? = some .m ∧ ps[j]? = some (.sl i)
  | [], _, _, h => by simp [mIx] at h
  | _ :: _, [], _, h => by simp [mIx] at h
  | m :: ms, p :: ps, i, h => by
    unfold mIx at h
    split at h
    · rename_i e1 e2
      cases e1; cases e2
      rcases List.mem_cons.mp h with rfl | h
      · exact ⟨0, rfl, rfl⟩
      · obtain ⟨j, h1, h2⟩ := mIx_of h
        exact ⟨j + 1, by simpa using h1, by simpa using h2⟩
    · rename_i e1 e2
      cases e1; cases e2
      obtain ⟨j, h1, h2⟩ := mIx_of h
      exact ⟨j + 1, by simpa using h1, by simpa using h2⟩
    · simp at h
/-- a slot's kind and its new data -/
def putSl (d : D) : Sl → Sl
  | .own _ => .own d
  | .lnd _ => .lnd d
  | s => s
theorem backs_ok : ∀ {mds : List Md} {qs : List PV} {A1 G G2 : List Sl}, (mIx mds qs).Nodup → mds.length = qs.length → A1.length = qs.length → backs mds qs A1 G = some G2 → G2.length = G.length ∧
    (∀ i, i ∉ mIx mds qs → G2[i]? = G[i]?) ∧ ∀ (j i : Nat), mds[j]? = some .m → qs[j]? = some (.sl i) → ∃ d s, A1[j]? = some (.lnd d) ∧ G[i]? = some s ∧ ((∃ d0, s = .own d0) ∨ ∃ d0, s = .lnd d0) ∧ G2[i]? = some (putSl d s)
  | [], [], [], G, G2, _, _, _, h => by simp [backs] at h; subst h; exact ⟨rfl, fun _ _ => rfl, fun j i h => by simp at h⟩
  | [], _ :: _, _, _, _, _, h, _, _ => by simp at h
  | _ :: _, [], _, _, _, _, h, _, _ => by simp at h
  | _ :: _, _ :: _, [], _, _, _, _, h, _ => by simp at h
  | [], [], _ :: _, _, _, _, _, h, _ => by simp at h
  | m :: ms, p :: ps, s :: ss, G, G2, nd, l1, l2, h => by
    have l1' : ms.length = ps.length := by simpa using l1
    have l2' : ss.length = ps.length := by simpa using l2
    by_cases hc : m = .m ∧ ∃ i, p = .sl i
    · obtain ⟨rfl, i, rfl⟩ := hc
      simp only [mIx] at nd
      obtain ⟨ni, nd'⟩ := List.nodup_cons.mp nd
      cases s with
      | lnd d =>
        simp only [backs] at h
        split at h
        · rename_i d0 q
          obtain ⟨a1, a2, a3⟩ := backs_ok nd' l1' l2' h
          refine ⟨by simpa using a1, fun k hk => ?_, fun j k h1 h2 => ?_⟩
          · simp only [mIx, List.mem_cons, not_or] at hk
            rw [a2 k hk.2, List.getElem?_set_ne (Ne.symm hk.1)]
          · cases j with
            | zero =>
              simp at h2; subst h2
              refine ⟨d, .own d0, rfl, q, .inl ⟨_, rfl⟩, ?_⟩
              rw [a2 _ ni, List.getElem?_set_self (List.getElem?_eq_some_iff.mp q).1]; rfl
            | succ j =>
              obtain ⟨d', s', b1, b2, b3, b4⟩ := a3 j k (by simpa using h1) (by simpa using h2)
              have nk : i ≠ k := fun z => ni (by rw [z]; exact mIx_mem (by simpa using h1) (by simpa using h2))
              rw [List.getElem?_set_ne nk] at b2
              exact ⟨d', s', by simpa using b1, b2, b3, b4⟩
        · rename_i d0 q
          obtain ⟨a1, a2, a3⟩ := backs_ok nd' l1' l2' h
          refine ⟨by simpa using a1, fun k hk => ?_, fun j k h1 h2 => ?_⟩
          · simp only [mIx, List.mem_cons, not_or] at hk
            rw [a2 k hk.2, List.getElem?_set_ne (Ne.symm hk.1)]
          · cases j with
            | zero =>
              simp at h2; subst h2
              refine ⟨d, .lnd d0, rfl, q, .inr ⟨_, rfl⟩, ?_⟩
              rw [a2 _ ni, List.getElem?_set_self (List.getElem?_eq_some_iff.mp q).1]; rfl
            | succ j =>
              obtain ⟨d', s', b1, b2, b3, b4⟩ := a3 j k (by simpa using h1) (by simpa using h2)
              have nk : i ≠ k := fun z => ni (by rw [z]; exact mIx_mem (by simpa using h1) (by simpa using h2))
              rw [List.getElem?_set_ne nk] at b2
              exact ⟨d', s', by simpa using b1, b2, b3, b4⟩
        · cases h
      | _ => simp [backs] at h
    · have hx : mIx (m :: ms) (p :: ps) = mIx ms ps := by
        cases m <;> cases p <;> first
          | rfl
          | exact absurd ⟨rfl, _, rfl⟩ hc
      rw [hx] at nd ⊢
      have h' : backs ms ps ss G = some G2 := by
        cases m <;> cases p <;> first
          | (simp only [backs] at h; exact h)
          | exact absurd ⟨rfl, _, rfl⟩ hc
      obtain ⟨a1, a2, a3⟩ := backs_ok nd l1' l2' h'
      refine ⟨a1, a2, fun j k h1 h2 => ?_⟩
      cases j with
      | zero => simp at h1 h2; exact absurd ⟨h1, _, h2⟩ hc
      | succ j =>
        obtain ⟨d', s', b1, b2, b3, b4⟩ := a3 j k (by simpa using h1) (by simpa using h2)
        exact ⟨d', s', by simpa using b1, b2, b3, b4⟩

/-- the call is over: what was lent is back -/
theorem leave {mds : List Md} {qs : List PV} {vs : List V} {A A1 G' Y0 : List Sl} {Y : L2.St} (S : Sat e P G σ H) (t : Tmps e P σ G H qs vs) (hl : mds.length = qs.length) (ok : okIx (mIx mds qs) (bIx mds qs) = true) (hA : toSls G mds qs = some A)
    (no1 : ∀ (i : Nat) (d : D), A1[i]? ≠ some (.own d)) (hb : backs mds qs A1 G = some G') (la1 : A1.length = vs.length) (hY : ∀ (i : Nat) (s : Sl), Y0[i]? = some s → ∃ d, s = .own d) (S1 : Sat e (preC P G σ H mds vs) (A1 ++ Y0) (vs.map some ++ Y) H1) :
    Sat e P (G' ++ Y0) (σ ++ Y) H1 ∧ Step (Zn P G σ) H (Zn P (G' ++ Y0) (σ ++ Y)) H1 ∧ (∀ a, Zn P (G' ++ Y0) (σ ++ Y) a ↔ Zn (preC P G σ H mds vs) (A1 ++ Y0) (vs.map some ++ Y) a) := by
  obtain ⟨la, g⟩ := toSls_get t hA
  have ok' : (mIx mds qs).Nodup := by
    unfold okIx at ok
    simp only [Bool.and_eq_true, decide_eq_true_eq] at ok
    exact ok.1
  have lq := Tmps.len t
  obtain ⟨b1, b2, b3⟩ := backs_ok ok' hl (by rw [la1, lq]) hb
  have lG : G'.length = σ.length := by rw [b1, S.len]
  have lY : Y0.length = Y.length := by
    have := S1.len
    simp only [List.length_append, List.length_map] at this
    omega
  -- the slots that were lent
  have mk : ∀ i, i ∈ mIx mds qs → ∃ (j : Nat) (d : D) (s : Sl) (a : Addr), mds[j]? = some .m ∧ qs[j]? = some (.sl i) ∧ A1[j]? = some (.lnd d) ∧ G[i]? = some s ∧ ((∃ d0, s = .own d0) ∨ ∃ d0, s = .lnd d0) ∧ G'[i]? = some (putSl d s) ∧ vs[j]? = some (.ref a) ∧ σ[i]? = some (some (.ref a)) := fun i hi => by
    obtain ⟨j, h1, h2⟩ : ∃ j : Nat, mds[j]? = some .m ∧ qs[j]? = some (.sl i) := mIx_of hi
    obtain ⟨d, s, c1, c2, c3, c4⟩ := b3 j i h1 h2
    have hj : j < A.length := by rw [la, ← lq]; exact (List.getElem?_eq_some_iff.mp h2).1
    obtain ⟨md, p, v, g1, g2, g3, g4, g5⟩ := g j _ (List.getElem?_eq_getElem hj)
    rw [h1] at g1; cases g1
    rw [h2] at g2; cases g2
    have g4 : σ[i]? = some (some v) := g4
    have hs : ∃ d0, G[i]? = some (.own d0) ∨ G[i]? = some (.lnd d0) := by
      rcases c3 with ⟨d0, rfl⟩ | ⟨d0, rfl⟩
      · exact ⟨d0, .inl c2⟩
      · exact ⟨d0, .inr c2⟩
    obtain ⟨d0, hs⟩ := hs
    obtain ⟨a, z1, _⟩ := S.slotAddr (hs.elim .inl fun z => .inr (.inl z))
    rw [g4] at z1; cases z1
    exact ⟨j, d, s, a, h1, h2, c1, c2, c3, c4, g3, g4⟩
  -- the kinds are the same
  have kind : ∀ (i : Nat) (d : D), G'[i]? = some (.own d) → ∃ d0, G[i]? = some (.own d0) := fun i d h => by
    by_cases hi : i ∈ mIx mds qs
    · obtain ⟨j, d1, s, a, _, _, _, c2, c3, c4, _⟩ := mk i hi
      rw [c4] at h
      rcases c3 with ⟨d0, rfl⟩ | ⟨d0, rfl⟩
      · exact ⟨d0, c2⟩
      · cases h
    · rw [b2 i hi] at h; exact ⟨d, h⟩
  have kind' : ∀ (i : Nat) (d : D), G[i]? = some (.own d) → ∃ d0, G'[i]? = some (.own d0) := fun i d h => by
    by_cases hi : i ∈ mIx mds qs
    · obtain ⟨j, d1, s, a, _, _, _, c2, c3, c4, _⟩ := mk i hi
      rw [h] at c2; cases c2
      exact ⟨d1, c4⟩
    · rw [b2 i hi]; exact ⟨d, h⟩
  have yZ : ∀ a, Zn (preC P G σ H mds vs) (A1 ++ Y0) (vs.map some ++ Y) a → Zn P G σ a ∨ ∃ (i : Nat) (d : D), Y0[i]? = some (.own d) ∧ Y[i]? = some (some (.ref a)) := fun a z => by
    rcases z with z | ⟨i, d, h1, h2⟩
    · exact .inl z
    · by_cases hi : i < A1.length
      · rw [List.getElem?_append_left hi] at h1; exact absurd h1 (no1 i d)
      · rw [List.getElem?_append_right (by omega)] at h1
        rw [List.getElem?_append_right (by rw [List.length_map]; omega), List.length_map, ← la1] at h2
        exact .inr ⟨_, d, h1, h2⟩
  have zz : ∀ a, Zn P (G' ++ Y0) (σ ++ Y) a ↔ Zn (preC P G σ H mds vs) (A1 ++ Y0) (vs.map some ++ Y) a := fun a => by
    refine ⟨fun z => ?_, fun z => ?_⟩
    · rcases z with z | ⟨i, d, h1, h2⟩
      · exact .inl (.inl z)
      · by_cases hi : i < G'.length
        · rw [List.getElem?_append_left hi] at h1
          rw [List.getElem?_append_left (by omega)] at h2
          obtain ⟨d0, h3⟩ := kind i d h1
          exact .inl (.inr ⟨i, d0, h3, h2⟩)
        · rw [List.getElem?_append_right (by omega)] at h1
          rw [List.getElem?_append_right (by omega), ← lG] at h2
          refine .inr ⟨A1.length + (i - G'.length), d, ?_, ?_⟩
          · rw [List.getElem?_append_right (by omega)]; simpa using h1
          · rw [List.getElem?_append_right (by rw [List.length_map]; omega), List.length_map, ← la1]; simpa using h2
    · rcases yZ a z with z | ⟨i, d, h1, h2⟩
      · rcases z with z | ⟨i, d, h1, h2⟩
        · exact .inl z
        · obtain ⟨d0, h3⟩ := kind' i d h1
          exact .inr ⟨i, d0, get_append' h3, get_append' h2⟩
      · refine .inr ⟨G'.length + i, d, ?_, ?_⟩
        · rw [List.getElem?_append_right (by omega)]; simpa using h1
        · rw [List.getElem?_append_right (by omega), ← lG]; simpa using h2
  -- what lies behind the entry
  have yNew : ∀ (i : Nat) (d : D) (a : Addr), Y0[i]? = some (.own d) → Y[i]? = some (some (.ref a)) → H a = none ∧ ¬ Zn P G σ a ∧ At e (Zn (preC P G σ H mds vs) (A1 ++ Y0) (vs.map some ++ Y)) H1 d a := fun i d a h1 h2 => by
    obtain ⟨a', q1, q2, q3, q4⟩ := S1.slot (A1.length + i) (.own d) (by rw [List.getElem?_append_right (by omega)]; simpa using h1)
    rw [List.getElem?_append_right (by rw [List.length_map]; omega), List.length_map, ← la1] at q1
    simp only [Nat.add_sub_cancel_left] at q1
    rw [h2] at q1; cases q1
    exact ⟨q2, q3, q4⟩
  have st : Step (Zn P G σ) H (Zn P (G' ++ Y0) (σ ++ Y)) H1 := by
    refine ⟨fun a o h z => ⟨S1.keep a o h fun w => z w.choose_spec.2.2, fun y => ?_⟩, S1.live⟩
    rcases yZ a ((zz a).mp y) with y | ⟨i, d, h1, h2⟩
    · exact z y
    · have := (yNew i d a h1 h2).1
      rw [h] at this; cases this
  -- an object that was not lent stands
  have stand : ∀ (i : Nat) (d : D) (a : Addr), i ∉ mIx mds qs → (G[i]? = some (.own d) ∨ G[i]? = some (.lnd d) ∨ G[i]? = some (.bor d)) → σ[i]? = some (some (.ref a)) → At e (Zn P G σ) H d a → At e (Zn P (G' ++ Y0) (σ ++ Y)) H1 d a := fun i d a hi hd ha hA => by
    have hne : H a ≠ none := hA.live
    refine hA.step st ?_
    cases q : H a with
    | none => exact absurd q hne
    | some o =>
      refine S1.keep a o q ?_
      rintro ⟨j, j1, j2, _⟩
      have hj : j < A.length := by rw [la]; exact (List.getElem?_eq_some_iff.mp j2).1
      obtain ⟨md, p, v, g1, g2, g3, g4, g5⟩ := g j _ (List.getElem?_eq_getElem hj)
      rw [j1] at g1; cases g1
      rw [j2] at g3; cases g3
      obtain ⟨i', d', rfl, _, h5⟩ := toSl_m g5
      have ni : i' ≠ i := fun z => hi (by rw [← z]; exact mIx_mem j1 g2)
      exact S.apart h5 hd g4 ha ni rfl
  refine ⟨⟨by simp [lG, lY], fun i s h => ?_, fun i j d d' a h1 h2 h3 h4 => ?_, fun i j d d' a h1 h2 h3 h4 => ?_, fun a o h w => ?_, fun a h => S1.live a (S.live a h), S.z0, S.wz⟩, st, zz⟩
  · by_cases hi : i < G'.length
    · rw [List.getElem?_append_left hi] at h
      have hs : i < σ.length := by omega
      by_cases hm : i ∈ mIx mds qs
      · obtain ⟨j, d, s', a, m1, m2, c1, c2, c3, c4, c5, c6⟩ := mk i hm
        rw [c4] at h
        obtain ⟨a', q1, q2, _, _, q4⟩ := S1.slot j (.lnd d) (get_append' c1)
        rw [List.getElem?_append_left (by rw [List.length_map]; exact (List.getElem?_eq_some_iff.mp c5).1), List.getElem?_map, c5] at q1
        cases q1
        have q5 : At e (Zn P (G' ++ Y0) (σ ++ Y)) H1 d a := q4.step ((Step.refl _ _).zone fun b y => (zz b).mp y) rfl
        rcases c3 with ⟨d0, rfl⟩ | ⟨d0, rfl⟩
        · cases h
          obtain ⟨a', p1, p2, p3, _⟩ := S.slot i _ c2
          rw [c6] at p1; cases p1
          exact ⟨a, get_append' c6, p2, p3, q5⟩
        · cases h
          obtain ⟨a', p1, p2, p3, p4, _⟩ := S.slot i _ c2
          rw [c6] at p1; cases p1
          exact ⟨a, get_append' c6, p2, p3, p4, q5⟩
      · rw [b2 i hm] at h
        have q := S.slot i s h
        cases s with
        | no => trivial
        | imm d => obtain ⟨v, h1, h2⟩ := q; exact ⟨v, get_append' h1, Rp.step st d v h2⟩
        | own d => obtain ⟨a, h1, h2, h3, h4⟩ := q; exact ⟨a, get_append' h1, h2, h3, stand i d a hm (.inl h) h1 h4⟩
        | lnd d => obtain ⟨a, h1, h2, h3, h4, h5⟩ := q; exact ⟨a, get_append' h1, h2, h3, h4, stand i d a hm (.inr (.inl h)) h1 h5⟩
        | bor d => obtain ⟨a, h1, h2, h3, h4⟩ := q; exact ⟨a, get_append' h1, h2, h3, stand i d a hm (.inr (.inr h)) h1 h4⟩
        | exn c ns ds => obtain ⟨a, h1, h2⟩ := q; exact ⟨a, get_append' h1, h2.step st⟩
    · rw [List.getElem?_append_right (by omega)] at h
      obtain ⟨d, rfl⟩ := hY _ _ h
      obtain ⟨a, q1, q2, q3, q4⟩ := S1.slot (A1.length + (i - G'.length)) (.own d) (by rw [List.getElem?_append_right (by omega)]; simpa using h)
      rw [List.getElem?_append_right (by rw [List.length_map]; omega), List.length_map, ← la1] at q1
      simp only [Nat.add_sub_cancel_left] at q1
      refine ⟨a, by rw [List.getElem?_append_right (by omega), ← lG]; exact q1, ?_, fun z => q3 (.inl z), q4.step ((Step.refl _ _).zone fun b y => (zz b).mp y) rfl⟩
      cases q : P.H0 a with
      | none => rfl
      | some o => exact absurd q2 (S.live a (by rw [q]; simp))
  · -- own slots stand apart
    have old : ∀ {i : Nat} {d : D}, (G' ++ Y0)[i]? = some (.own d) → (σ ++ Y)[i]? = some (some (.ref a)) → (i < G'.length ∧ (∃ d0, G[i]? = some (.own d0)) ∧ σ[i]? = some (some (.ref a)) ∧ H a ≠ none) ∨ (¬ i < G'.length ∧ Y0[i - G'.length]? = some (.own d) ∧ Y[i - G'.length]? = some (some (.ref a)) ∧ H a = none) := fun {i d} h1 h3 => by
      by_cases hi : i < G'.length
      · rw [List.getElem?_append_left hi] at h1
        rw [List.getElem?_append_left (by omega)] at h3
        obtain ⟨d0, h5⟩ := kind i d h1
        obtain ⟨b, q1, _, _, q4⟩ := S.slot i _ h5
        rw [h3] at q1; cases q1
        exact .inl ⟨hi, ⟨d0, h5⟩, h3, q4.live⟩
      · rw [List.getElem?_append_right (by omega)] at h1
        rw [List.getElem?_append_right (by omega), ← lG] at h3
        exact .inr ⟨hi, h1, h3, (yNew _ d a h1 h3).1⟩
    rcases old h1 h3 with ⟨_, ⟨d1, a1⟩, a2, a3⟩ | ⟨a0, a1, a2, a3⟩
    · rcases old h2 h4 with ⟨_, ⟨d2, c1⟩, c2, c3⟩ | ⟨c0, c1, c2, c3⟩
      · exact S.dist i j d1 d2 a a1 c1 a2 c2
      · exact absurd c3 a3
    · rcases old h2 h4 with ⟨_, ⟨d2, c1⟩, c2, c3⟩ | ⟨c0, c1, c2, c3⟩
      · exact absurd a3 c3
      · have := S1.dist (A1.length + (i - G'.length)) (A1.length + (j - G'.length)) d d' a (by rw [List.getElem?_append_right (by omega)]; simpa using a1) (by rw [List.getElem?_append_right (by omega)]; simpa using c1)
          (by rw [List.getElem?_append_right (by rw [List.length_map]; omega), List.length_map, ← la1]; simpa using a2) (by rw [List.getElem?_append_right (by rw [List.length_map]; omega), List.length_map, ← la1]; simpa using c2)
        omega
  · have old : ∀ {i : Nat} {d : D}, (G' ++ Y0)[i]? = some (.lnd d) → i < G'.length ∧ ∃ d0, G[i]? = some (.lnd d0) := fun {i d} h1 => by
      by_cases hi : i < G'.length
      · rw [List.getElem?_append_left hi] at h1
        refine ⟨hi, ?_⟩
        by_cases hm : i ∈ mIx mds qs
        · obtain ⟨j, d1, s, a, _, _, _, c2, c3, c4, _⟩ := mk i hm
          rw [c4] at h1
          rcases c3 with ⟨d0, rfl⟩ | ⟨d0, rfl⟩
          · cases h1
          · exact ⟨d0, c2⟩
        · rw [b2 i hm] at h1; exact ⟨d, h1⟩
      · rw [List.getElem?_append_right (by omega)] at h1
        obtain ⟨_, z⟩ := hY _ _ h1
        cases z
    obtain ⟨l1, d1, g1⟩ := old h1
    obtain ⟨l2, d2, g2⟩ := old h2
    rw [List.getElem?_append_left (by omega)] at h3 h4
    exact S.par i j d1 d2 a g1 g2 h3 h4
  · refine S1.keep a o (S.keep a o h w) ?_
    rintro ⟨j, j1, j2, z⟩
    have hj : j < A.length := by rw [la]; exact (List.getElem?_eq_some_iff.mp j2).1
    obtain ⟨md, p, v, g1, g2, g3, g4, g5⟩ := g j _ (List.getElem?_eq_getElem hj)
    rw [j1] at g1; cases g1
    rw [j2] at g3; cases g3
    obtain ⟨i', d', rfl, _, h5⟩ := toSl_m g5
    have g4 : σ[i']? = some (some (.ref a)) := g4
    rcases h5 with h5 | h5
    · obtain ⟨a', q1, q2, _⟩ := S.slot i' _ h5
      rw [g4] at q1; cases q1
      rw [h] at q2; cases q2
    · obtain ⟨a', q1, _, q2, _⟩ := S.slot i' _ h5
      rw [g4] at q1; cases q1
      exact w q2

theorem ExR.zone {Z Z' : Zo} {c : Nat} {ns : List Nat} {ds : List D} {cls : Value} {dx : Option Addr} (h : ExR e Z H c ns ds cls dx) (hz : ∀ a, Z' a → Z a) : ExR e Z' H c ns ds cls dx := by
  obtain ⟨h0, h | ⟨d, fs, h1, h2, h3, h4, h5⟩⟩ := h
  · exact ⟨h0, .inl h⟩
  · exact ⟨h0, .inr ⟨d, fs, h1, fun z => h2 (hz d z), h3, h4, h5.zone hz⟩⟩
/-- a call of a def by its promise -/
theorem runC_ok {m : MF} {mds : List Md} {ps : List PV} {vs : List V} {n : Nat} {Q : VK} {Z0 : Zo} {H0 : Hp} (S : Sat e P G σ H) (t : Tmps e P σ G H ps vs) (st : Step Z0 H0 (Zn P G σ) H) (hn : mds.length = n)
    (q : PostR e W P σ Z0 H0 (fun pv G2 => ∀ v H2, Res e P σ Z0 H0 pv G2 v H2 → Q v H2) (runC m mds ps G)) : spD e n m vs H Q (WE W σ) := by
  unfold runC at q
  split at q
  · rename_i qs G1 q1
    obtain ⟨S1, st1, t1, hl⟩ := outs_ok S t q1
    split at q
    · rename_i ok
      split at q
      · rename_i A hA
        obtain ⟨SA, no⟩ := enter S1 t1 hl ok hA
        refine ⟨by rw [← Tmps.len t1, ← hl]; exact hn, preC P G1 σ H mds vs, A, rfl, rfl, no, SA, ?_⟩
        have hz : ∀ {A1 : List Sl}, A1.length = vs.length → ∀ (d : D) (p : Addr), (A1 ++ [Sl.own d]).length = (vs.map some ++ [some (V.ref p)]).length := fun h d p => by simp [h]
        cases hm : m A with
        | bad => rw [hm] at q; exact q.elim
        | ok pv A1 =>
          rw [hm] at q
          cases pv with
          | sl i => exact q.elim
          | val d =>
            simp only [finC] at q
            split at q
            · rename_i no1
              split at q
              · rename_i G2 hb
                intro v H1 r
                obtain ⟨SB, stB, rB⟩ := r
                have lB : A1.length = vs.length := by have := SB.len; simpa using this
                obtain ⟨L1, L2, L3⟩ := leave (Y0 := []) (Y := []) S1 t1 hl ok hA (noOwn_ok no1) hb lB (fun i s h => by simp at h) (by simpa using SB)
                simp only [List.append_nil] at L1 L2 L3
                exact q v H1 ⟨L1, (st.trans st1).trans L2, rB.zone fun a y => (L3 a).mp y⟩
              · exact q.elim
            · exact q.elim
          | fr d =>
            simp only [finC] at q
            split at q
            · rename_i no1
              split at q
              · rename_i G2 hb
                intro v H1 r
                obtain ⟨p, rfl, SB, stB⟩ := r
                have lB : A1.length = vs.length := by have := SB.len; simpa using this
                obtain ⟨L1, L2, L3⟩ := leave (Y0 := [.own d]) (Y := [some (.ref p)]) S1 t1 hl ok hA (noOwn_ok no1) hb lB (fun i s h => by
                  cases i with
                  | zero => simp at h; exact ⟨d, h.symm⟩
                  | succ i => simp at h) SB
                exact q _ H1 ⟨p, rfl, L1, (st.trans st1).trans L2⟩
              · exact q.elim
            · exact q.elim
        | ex c ns ds A1 =>
          rw [hm] at q
          simp only [finC] at q
          split at q
          · rename_i no1
            split at q
            · rename_i G2 hb
              intro cls dx H1 SB stB r
              have lB : A1.length = vs.length := by have := SB.len; simpa using this
              obtain ⟨L1, L2, L3⟩ := leave (Y0 := []) (Y := []) S1 t1 hl ok hA (noOwn_ok no1) hb lB (fun i s h => by simp at h) (by simpa using SB)
              simp only [List.append_nil] at L1 L2 L3
              exact q cls dx H1 L1 ((st.trans st1).trans L2) (r.zone fun a y => (L3 a).mp y)
            · exact q.elim
          · exact q.elim
      · exact q.elim
    · exact q.elim
  · exact q.elim

/-! ### calls as expressions -/
def cCall (m : MF) (mds : List Md) (fs : AF) : EF := fun G => (fs G).bind fun ps G1 => runC m mds ps G1
theorem tD_call {m : MF} {mds : List Md} {n : Nat} {fs : AF} {Q : VK} (hn : mds.length = n) (h : tD e W (cCall m mds fs) σ H Q) : tA e W fs σ H fun vs H1 => spD e n m vs H1 Q (WE W σ) :=
  tA_then h fun P G Z0 H0 H ps vs S st t q => runC_ok S t st hn q
variable {f C : Addr} {fd : FuncData} {k n : Nat} {m : MF} {mds : List Md} {fs : AF} {a : Expr} {es : List Expr} {x : Str} {p pos apos : Pos}
/-- f(a, ..) -/
theorem de_call (c : Clb X W f (spD e n m)) (hn : mds.length = n) (hg : Gl X x) (hm : X.mg x = some (.ref f)) (hk : PySem.W.keepIn X.K (.ref f) = true) (ha : PA X (a :: es) (tA e W fs)) (hdb : (x == ("__debug__" : Str)) = false := by decide)
    (he : starEach (a :: es) X.env = (false, eval a X.env) :: starEach es X.env := by rfl) (hpl : (backTo pos (starEach es X.env)).any (·.1) = false := by rfl) : PE X (.Call (.Name x p) (a :: es) [] pos) (tD e W (cCall m mds fs)) := by
  refine ⟨fun pins s σ H Q I h => ?_⟩
  refine wpAny_Call_Name_kw (ld_glob I hg hm ?_ hdb)
  refine PySem.W.callWith_K (h₀ := X.base) I.ok.mod.kin hk (thn (ha.run pos pins s σ H _ I (tD_call hn h)) fun us s1 ⟨vs, H1, I1, r, q⟩ => ⟨I1.kIn, ?_⟩) he hpl
  exact c pins s1 σ H1 vs us Q I1 r q
/-- f() -/
theorem de_call0 (c : Clb X W f (spD e 0 m)) (hg : Gl X x) (hm : X.mg x = some (.ref f)) (hk : PySem.W.keepIn X.K (.ref f) = true) (hdb : (x == ("__debug__" : Str)) = false := by decide) : PE X (.Call (.Name x p) [] [] pos) (tD e W (cCall m [] aNil)) := by
  refine ⟨fun pins s σ H Q I h => ?_⟩
  refine wpAny_Call_Name_kw (ld_glob I hg hm ?_ hdb)
  obtain ⟨P, G, S, h⟩ := h
  exact PySem.W.callWith_K0 I.kIn hk (c pins s σ H [] [] Q I .nil (runC_ok (mds := []) (ps := []) S (show Tmps e P σ G H [] [] from rfl) (Step.refl _ _) rfl (show PostR e W P σ _ _ _ (runC m [] [] G) from h)))

/-! ### methods -/
def cMeth (c mn : Nat) (m : MF) (mds : List Md) (fo : EF) (fs : AF) : EF := fun G => (fo G).bind fun p G1 => match peek p G1 with
  | some (.obj c' ns _) => if c' = c ∧ ns.contains mn = false then (fs G1).bind fun ps G2 => runC m mds (p :: ps) G2 else .bad
  | _ => .bad
theorem tD_meth {c mn : Nat} {m : MF} {mds : List Md} {n : Nat} {fo : EF} {fs : AF} {Q : VK} (hn : mds.length = n) (h : tD e W (cMeth c mn m mds fo fs) σ H Q) :
    tD e W fo σ H fun x H1 => ∃ a dx gs, x = .ref a ∧ H1 a = some (.ins (e.ga c) dx gs) ∧ gs.lookup (e.nm mn) = none ∧ tA e W fs σ H1 fun vs H2 => spD e n m (x :: vs) H2 Q (WE W σ) := by
  refine tD_then h fun P G Z0 H0 H pv v r q => ?_
  obtain ⟨S1, st1, t1⟩ := r.tmp
  split at q
  · rename_i c' ns ds p1
    obtain ⟨a, dx, gs, rfl, h1, h2, h3⟩ := (peek_ok S1 t1 p1).obj
    split at q
    · rename_i hc
      obtain ⟨rfl, hns⟩ := hc
      refine ⟨a, dx, gs, rfl, h1, lkN_none h2 (by simpa using hns), ?_⟩
      refine tA_at S1 st1 (q.bind.mono (fun ps G2 q vs H2 S2 st2 t2 => ?_) fun _ _ s => s)
      exact runC_ok S2 (ps := pv :: ps) ⟨_, _, rfl, t1.step st2, t2⟩ (st1.trans st2) hn q
    · exact q.elim
  · exact q.elim
variable {c mn : Nat} {o : Expr} {fo : EF}
theorem de_meth {pl : Sem Bool} (cb : Clb X W f (spD e n m)) (hn : mds.length = n) (hK : X.K = e.K) (cl : Cls e.K (e.ga c)) (hm : Meth e.K (e.ga c) (e.nm mn) f) (hx : x = e.nm mn) (ho : PE X o (tD e W fo)) (ha : PA X (a :: es) (tA e W fs))
    (hst : starEach (a :: es) X.env = (false, eval a X.env) :: starEach es X.env := by rfl) (hpl : (backTo pos (starEach es X.env)).any (·.1) = false := by rfl)
    (ht : eval (.Call (.Attribute o x apos) (a :: es) [] pos) X.env = (do
      let ov ← eval o X.env
      standAt apos.atName
      let (f, first) ← holding [ov] (getMethod ov x pl)
      callWith pos f first (backTo pos (starEach (a :: es) X.env)) (backToKw pos (keywordEach [] X.env))) := by rfl) :
    PE X (.Call (.Attribute o x apos) (a :: es) [] pos) (tD e W (cMeth c mn m mds fo fs)) := by
  refine ⟨fun pins s σ H Q I h => ?_⟩
  subst hx
  refine PySem.W.methodCall_KW (pl := pl) (thn (ho.run pins s σ H _ I (tD_meth hn h)) fun u s1 ⟨x, H1, I1, rx, a, dx, gs, ex, ea, l, q⟩ => ?_) ht
  subst ex
  obtain rfl : u = Value.ref a := rx
  refine getmeth_ok I1 ea (hK ▸ cl) (hK ▸ hm) l ?_
  refine PySem.W.callWith_K (first := [.ref a]) (h₀ := X.base) I.ok.mod.kin (hK ▸ hm.kp) (thn (ha.run pos pins s1 σ H1 _ I1 q) fun us s2 ⟨vs, H2, I2, r, q2⟩ => ⟨I2.kIn, ?_⟩) hst hpl
  exact cb pins s2 σ H2 (.ref a :: vs) (.ref a :: us) Q I2 (.cons rfl r) q2
theorem de_meth0 {pl : Sem Bool} (cb : Clb X W f (spD e n m)) (hn : mds.length = n) (hK : X.K = e.K) (cl : Cls e.K (e.ga c)) (hm : Meth e.K (e.ga c) (e.nm mn) f) (hx : x = e.nm mn) (ho : PE X o (tD e W fo))
    (ht : eval (.Call (.Attribute o x apos) [] [] pos) X.env = (do
      let ov ← eval o X.env
      standAt apos.atName
      let (f, first) ← holding [ov] (getMethod ov x pl)
      callWith pos f first (backTo pos (starEach [] X.env)) (backToKw pos (keywordEach [] X.env))) := by rfl) :
    PE X (.Call (.Attribute o x apos) [] [] pos) (tD e W (cMeth c mn m mds fo aNil)) := by
  refine ⟨fun pins s σ H Q I h => ?_⟩
  subst hx
  refine PySem.W.methodCall_KW (pl := pl) (thn (ho.run pins s σ H _ I (tD_meth hn h)) fun u s1 ⟨x, H1, I1, rx, a, dx, gs, ex, ea, l, q⟩ => ?_) ht
  subst ex
  obtain rfl : u = Value.ref a := rx
  refine getmeth_ok I1 ea (hK ▸ cl) (hK ▸ hm) l ?_
  have q' : spD e n m [.ref a] H1 Q (WE W σ) := by
    obtain ⟨P, G, S, q⟩ := q
    exact q [] H1 S (Step.refl _ _) rfl
  exact PySem.W.callWith_K0 (first := [.ref a]) I1.kIn (hK ▸ hm.kp) (cb pins s1 σ H1 [.ref a] [.ref a] Q I1 (.cons rfl .nil) q')

/-! ### C(..) of an own class -/
def ClbMk (X : Cx) (W : WX) (C : Addr) (sp : Sp) : Prop :=
  ∀ (pins : List (Addr × Obj)) (s : Shared) (σ : L2.St) (H : Hp) (vs : List V) (us : List Value) (Q : VK), Inv X pins σ H s → Vals vs us →
    (∀ x dx, H x = none → H dx = none → dx ≠ x → sp (.ref x :: vs) (upd (upd H dx (.own x)) x (.ins C dx [])) (fun v H2 => v = .non ∧ Q (.ref x) H2) (WE W σ)) → wpAny (model X.prog X.w) X.A (call (.ref C) us) (EP X pins σ Q) X.xe s
theorem clbMk_of {ps : List Str} {sp : Sp} (M : Mk X.K C f) (F : FnOk X.prog X.w X.K X.mg X.base (L2.CX X.prog X.w) k f fd ps sp) (hr : Room (k + 1) X.A) (hb : Binds X.K fd ps []) (tk : Takes X W) : ClbMk X W C sp := by
  intro pins s σ H vs us Q I r h
  have hq := h (s.heap.objs.size + 1) s.heap.objs.size (I.hok.fresh (Nat.le_succ _)) (I.hok.fresh (Nat.le_refl _)) (Nat.ne_of_lt (Nat.lt_succ_self _))
  have I2 := Inv.made (C := C) I
  have r2 : Vals (V.ref (s.heap.objs.size + 1) :: vs) (Value.ref (s.heap.objs.size + 1) :: us) := .cons rfl r
  have hl : (Value.ref (s.heap.objs.size + 1) :: us).length = ps.length := by
    have e := r2.length
    rw [F.len _ _ _ _ hq] at e
    exact e.symm
  have b := hb _ (Value.ref (s.heap.objs.size + 1) :: us) I2.kIn (by rw [List.append_nil]; exact hl)
  rw [List.append_nil] at b
  refine wpAny_call (make_map (f := f) I.kIn M.makes M.init (beq_iff_eq.mp M.fn) (codeAny_mono (F.run _ X.stack _ _ ⟨Value.ref (s.heap.objs.size + 1) :: us, []⟩ (Value.ref (s.heap.objs.size + 1) :: us) _ _ (WE W σ) (hr.make C us [])
    (I2.env0.make C us []) b r2 hq) fun r s' hq' => ?_))
  cases r with
  | error e => exact passAt tk σ pins _ _ e s' I2 hq'
  | ok fl =>
    cases fl with
    | ret u =>
      obtain ⟨v, H', I3, rv, ev, q3⟩ := I2.after hq'
      subst ev
      exact ⟨rv, ⟨V.ref (s.heap.objs.size + 1), H', I3, rfl, q3⟩⟩
    | next => exact False.elim hq'
    | brk => exact False.elim hq'
    | cont => exact False.elim hq'
def finM (r : R PV) : R PV := match r with
  | .ok (.val .non) G2 => (match G2.getLast? with
    | some (.own d) => .ok (.fr d) G2.dropLast
    | _ => .bad)
  | .ex c ns ds G2 => .ex c ns ds G2.dropLast
  | _ => .bad
def cMake (c : Nat) (m : MF) (mds : List Md) (fs : AF) : EF := fun G => (fs G).bind fun ps G1 => finM (runC m (.m :: mds) (.sl G1.length :: ps) (G1 ++ [.own (.obj c [] [])]))
theorem Tmps.push {ps : List PV} {vs : List V} {x : Option V} {d : D} : Tmps e P σ G H ps vs → Step (Zn P G σ) H (Zn P (G ++ [.own d]) (σ ++ [x])) H1 → Tmps e P (σ ++ [x]) (G ++ [.own d]) H1 ps vs := by
  intro h st
  induction ps generalizing vs with
  | nil => exact h
  | cons p ps ih =>
    obtain ⟨v, r, rfl, h1, h2⟩ := h
    refine ⟨v, r, rfl, ?_, ih h2⟩
    cases p with
    | val d => exact Rp.step st _ _ h1
    | fr d => exact Rp.step st _ _ h1
    | sl i => exact get_append h1
theorem dropLast_eq {α : Type} {l : List α} {x : α} (h : l.getLast? = some x) : l = l.dropLast ++ [x] := by
  have hn : l ≠ [] := by rintro rfl; cases h
  rw [List.getLast?_eq_some_getLast hn] at h
  cases h
  exact (List.dropLast_concat_getLast hn).symm
theorem Sat.dropLast' {x : Option V} (S : Sat e P G (σ ++ [x]) H) : ∃ s, G = G.dropLast ++ [s] := by
  have hl := S.len
  have hn : G ≠ [] := by rintro rfl; simp at hl
  exact ⟨_, (List.dropLast_concat_getLast hn).symm⟩
theorem tD_make {c : Nat} {m : MF} {mds : List Md} {n : Nat} {fs : AF} {Q : VK} (hn : mds.length + 1 = n) (h : tD e W (cMake c m mds fs) σ H Q) : tA e W fs σ H fun vs H1 => ∀ x dx, H1 x = none → H1 dx = none → dx ≠ x →
    spD e n m (.ref x :: vs) (upd (upd H1 dx (.own x)) x (.ins (e.ga c) dx [])) (fun v H2 => v = .non ∧ Q (.ref x) H2) (WE W σ) :=
  tA_then h fun P G Z0 H0 H ps vs S st t q => by
    intro x dx hx hdx ne
    have gr : Grow H (upd (upd H dx (.own x)) x (.ins (e.ga c) dx [])) := fun a o h => by
      rw [upd_ne (ne_of_none h hx), upd_ne (ne_of_none h hdx)]; exact h
    have hA : At e (fun a => Zn P G σ a ∨ a = x) (upd (upd H dx (.own x)) x (.ins (e.ga c) dx [])) (.obj c [] []) x := ⟨dx, [], upd_same, rfl, rfl⟩
    have S1 := S.push gr hx hA
    have stz : Step (Zn P G σ) H (Zn P (G ++ [.own (.obj c [] [])]) (σ ++ [some (.ref x)])) (upd (upd H dx (.own x)) x (.ins (e.ga c) dx [])) := step_grow gr fun a ha z => by
      rcases z with z | ⟨i, d', h1, h2⟩
      · exact .inl z
      · by_cases hi : i < G.length
        · rw [List.getElem?_append_left hi] at h1
          rw [List.getElem?_append_left (S.len ▸ hi)] at h2
          exact .inr ⟨i, d', h1, h2⟩
        · have hi2 : i = G.length := by
            have := (List.getElem?_eq_some_iff.mp h1).1
            simp at this; omega
          subst hi2
          rw [S.len] at h2
          simp at h2
          subst h2
          exact absurd hx ha
    have t1 : Tmps e P (σ ++ [some (.ref x)]) (G ++ [.own (.obj c [] [])]) (upd (upd H dx (.own x)) x (.ins (e.ga c) dx [])) (.sl G.length :: ps) (.ref x :: vs) := ⟨_, _, rfl, by rw [S.len]; simp [Tmp], t.push stz⟩
    have st1 := st.trans stz
    refine runC_ok (W := fun cls d _ H => W cls d σ H) (mds := .m :: mds) (n := n) S1 t1 st1 (by simpa using hn) ?_
    cases hr : runC m (.m :: mds) (.sl G.length :: ps) (G ++ [.own (.obj c [] [])]) with
    | bad => rw [hr] at q; exact q.elim
    | ok pv G2 =>
      rw [hr] at q
      have q' : PostR e W P σ Z0 H0 (fun pv G2 => ∀ v H2, Res e P σ Z0 H0 pv G2 v H2 → Q v H2) (finM (.ok pv G2)) := q
      intro v H1 r
      unfold finM at q'
      split at q'
      · rename_i e1
        cases e1
        obtain ⟨SB, stB, rfl⟩ := r
        refine ⟨rfl, ?_⟩
        split at q'
        · rename_i d q1
          have eG := dropLast_eq q1
          rw [eG] at SB stB
          exact q' _ H1 ⟨x, rfl, SB, stB⟩
        · exact q'.elim
      · rename_i e1; cases e1
      · exact q'.elim
    | ex c1 ns ds G2 =>
      rw [hr] at q
      intro cls d H1 SB stB r
      obtain ⟨s, eG⟩ := SB.dropLast'
      rw [eG] at SB stB r
      have lG : G2.dropLast.length = σ.length := by have := SB.len; simpa using this
      exact q cls d H1 SB.dropLast (stB.zone (SB.zn_drop lG)) (r.zone (SB.zn_drop lG))
theorem de_make (cb : ClbMk X W (e.ga c) (spD e n m)) (hn : mds.length + 1 = n) (hg : Gl X x) (hm : X.mg x = some (.ref (e.ga c))) (hk : PySem.W.keepIn X.K (.ref (e.ga c)) = true) (ha : PA X (a :: es) (tA e W fs)) (hdb : (x == ("__debug__" : Str)) = false := by decide)
    (he : starEach (a :: es) X.env = (false, eval a X.env) :: starEach es X.env := by rfl) (hpl : (backTo pos (starEach es X.env)).any (·.1) = false := by rfl) : PE X (.Call (.Name x p) (a :: es) [] pos) (tD e W (cMake c m mds fs)) := by
  refine ⟨fun pins s σ H Q I h => ?_⟩
  refine wpAny_Call_Name_kw (ld_glob I hg hm ?_ hdb)
  refine PySem.W.callWith_K (h₀ := X.base) I.ok.mod.kin hk (thn (ha.run pos pins s σ H _ I (tD_make hn h)) fun us s1 ⟨vs, H1, I1, r, q⟩ => ⟨I1.kIn, ?_⟩) he hpl
  exact cb pins s1 σ H1 vs us Q I1 r q
end
end PD

/-! PD8: statements -/
namespace PD
open PySem PySem.Spec L2

section
variable {e : Ev} {W : WX} {P : Pre} {σ : L2.St} {G G1 G2 : List Sl} {H H1 H2 : Hp} {Z Z' : Zo} {X : Cx}
theorem _root_.L2.PS.imp {X : Cx} {st : Stmt} {t t' : TS} (h : PS X st t) (k : ∀ D σ H, t' D σ H → t D σ H) : PS X st t' := ⟨fun pins s σ H D I q => h.run pins s σ H D I (k _ _ _ q)⟩
theorem _root_.L2.PSs.imp {X : Cx} {st : List Stmt} {t t' : TS} (h : PSs X st t) (k : ∀ D σ H, t' D σ H → t D σ H) : PSs X st t' := ⟨fun pins s σ H D I q => h.run pins s σ H D I (k _ _ _ q)⟩
theorem _root_.L2.PG.imp {X : Cx} {ex : Expr} {t t' : TG} (h : PG X ex t) (k : ∀ v σ H Q, t' v σ H Q → t v σ H Q) : PG X ex t' := ⟨fun pins s σ H v u Q I r q => h.run pins s σ H v u Q I r (k _ _ _ _ q)⟩

/-- the end of a statement -/
def PostS (e : Ev) (W : WX) (P : Pre) (Z : Zo) (H : Hp) (D : Ends) : R Ctl → Prop
  | .ok .nx G1 => ∀ σ1 H1, Sat e P G1 σ1 H1 → Step Z H (Zn P G1 σ1) H1 → D.nx σ1 H1
  | .ok .brk G1 => ∀ σ1 H1, Sat e P G1 σ1 H1 → Step Z H (Zn P G1 σ1) H1 → D.bk σ1 H1
  | .ok .ct G1 => ∀ σ1 H1, Sat e P G1 σ1 H1 → Step Z H (Zn P G1 σ1) H1 → D.ct σ1 H1
  | .ok (.ret (.val d)) G1 => ∀ v σ1 H1, Sat e P G1 σ1 H1 → Rp e (Zn P G1 σ1) H1 d v → D.rt v H1
  | .ok (.ret (.fr d)) G1 => ∀ p σ1 H1, Sat e P (G1 ++ [.own d]) (σ1 ++ [some (.ref p)]) H1 → D.rt (.ref p) H1
  | .ok (.ret (.sl _)) _ => False
  | .ex c ns ds G1 => ∀ cls dx σ1 H1, Sat e P G1 σ1 H1 → Step Z H (Zn P G1 σ1) H1 → ExR e (Zn P G1 σ1) H1 c ns ds cls dx → W cls dx σ1 H1
  | .bad => False
def tS (e : Ev) (W : WX) (f : SF) : TS := fun D σ H => ∃ P G, Sat e P G σ H ∧ PostS e W P (Zn P G σ) H D (f G)
theorem PostS.start {H' : Hp} {D : Ends} {x : R Ctl} (h : PostS e W P Z H D x) (s : Step Z H Z' H') : PostS e W P Z' H' D x := by
  cases x with
  | bad => exact h
  | ex c ns ds G1 => exact fun cls dx σ1 H1 S st r => h cls dx σ1 H1 S (s.trans st) r
  | ok c G1 =>
    cases c with
    | nx => exact fun σ1 H1 S st => h σ1 H1 S (s.trans st)
    | brk => exact fun σ1 H1 S st => h σ1 H1 S (s.trans st)
    | ct => exact fun σ1 H1 S st => h σ1 H1 S (s.trans st)
    | ret v => cases v <;> exact h
theorem tS_at {f : SF} {D : Ends} (S : Sat e P G σ H) (h : PostS e W P (Zn P G σ) H D (f G)) : tS e W f D σ H := ⟨P, G, S, h⟩
/-- behind an expression -/
def ResS (e : Ev) (W : WX) (P : Pre) (σ : L2.St) (Z : Zo) (H : Hp) (D : Ends) (pv : PV) (G1 : List Sl) (x : R Ctl) : Prop := PostS e W P Z H D x
theorem PostS.bindD {f : EF} {k : PV → List Sl → R Ctl} {D : Ends} {Q : VK} (S : Sat e P G σ H) (h : PostS e W P (Zn P G σ) H D ((f G).bind k))
    (hk : ∀ pv G1 v H1, Res e P σ (Zn P G σ) H pv G1 v H1 → PostS e W P (Zn P G σ) H D (k pv G1) → Q v H1) : tD e W f σ H Q := by
  refine ⟨P, G, S, ?_⟩
  cases q : f G with
  | bad => rw [q] at h; exact h.elim
  | ex c ns ds G1 => rw [q] at h; exact fun cls dx H1 S1 st1 r => h cls dx σ H1 S1 st1 r
  | ok pv G1 => rw [q] at h; exact fun v H1 r => hk pv G1 v H1 r h
theorem PostS.bindT {f : TF} {k : Bool → List Sl → R Ctl} {D : Ends} {Q : Bool → Hp → Prop} (S : Sat e P G σ H) (h : PostS e W P (Zn P G σ) H D ((f G).bind k))
    (hk : ∀ b G1 H1, Sat e P G1 σ H1 → Step (Zn P G σ) H (Zn P G1 σ) H1 → PostS e W P (Zn P G σ) H D (k b G1) → Q b H1) : tT e W f σ H Q := by
  refine ⟨P, G, S, ?_⟩
  cases q : f G with
  | bad => rw [q] at h; exact h.elim
  | ex c ns ds G1 => rw [q] at h; exact fun cls dx H1 S1 st1 r => h cls dx σ H1 S1 st1 r
  | ok pv G1 => rw [q] at h; exact fun H1 S1 st1 => hk pv G1 H1 S1 st1 h
theorem PostS.bindA {f : AF} {k : List PV → List Sl → R Ctl} {D : Ends} {Q : List V → Hp → Prop} (S : Sat e P G σ H) (h : PostS e W P (Zn P G σ) H D ((f G).bind k))
    (hk : ∀ ps G1 vs H1, Sat e P G1 σ H1 → Step (Zn P G σ) H (Zn P G1 σ) H1 → Tmps e P σ G1 H1 ps vs → PostS e W P (Zn P G σ) H D (k ps G1) → Q vs H1) : tA e W f σ H Q := by
  refine ⟨P, G, S, ?_⟩
  cases q : f G with
  | bad => rw [q] at h; exact h.elim
  | ex c ns ds G1 => rw [q] at h; exact fun cls dx H1 S1 st1 r => h cls dx σ H1 S1 st1 r
  | ok pv G1 => rw [q] at h; exact fun vs H1 S1 st1 t => hk pv G1 vs H1 S1 st1 t h

/-! ### blocks -/
def seqK (g : SF) (c : Ctl) (G1 : List Sl) : R Ctl := match c with
  | .nx => g G1
  | c => .ok c G1
def cSeq (f g : SF) : SF := fun G => (f G).bind (seqK g)
def cNil : SF := fun G => .ok .nx G
theorem ds_nil : PSs X [] (tS e W cNil) := pss_nil.imp fun D σ H h => by
  obtain ⟨P, G, S, h⟩ := h
  exact h σ H S (Step.refl _ _)
theorem PostS.seq {f g : SF} {D : Ends} (h : PostS e W P Z H D ((f G).bind (seqK g))) : PostS e W P Z H { D with nx := tS e W g D } (f G) := by
  cases q : f G with
  | bad => rw [q] at h; exact h.elim
  | ex c ns ds G1 => rw [q] at h; exact h
  | ok c G1 =>
    rw [q] at h
    cases c with
    | nx => exact fun σ1 H1 S1 st1 => tS_at S1 (PostS.start h st1)
    | brk => exact h
    | ct => exact h
    | ret v => cases v <;> exact h
theorem ds_seq {st : Stmt} {rest : List Stmt} {f g : SF} (h1 : PS X st (tS e W f)) (h2 : PSs X rest (tS e W g)) : PSs X (st :: rest) (tS e W (cSeq f g)) := (pss_cons h1 h2).imp fun D σ H h => by
  obtain ⟨P, G, S, h⟩ := h
  exact ⟨P, G, S, h.seq⟩
theorem ds_one {st : Stmt} {f : SF} (h1 : PS X st (tS e W f)) : PSs X [st] (tS e W f) := pss_one h1
variable {pos : Pos}
theorem ds_pass : PS X (.Pass pos) (tS e W cNil) := ps_pass.imp fun D σ H h => by
  obtain ⟨P, G, S, h⟩ := h
  exact h σ H S (Step.refl _ _)
def cBrk : SF := fun G => .ok .brk G
def cCt : SF := fun G => .ok .ct G
theorem ds_brk : PS X (.Break pos) (tS e W cBrk) := ps_break.imp fun D σ H h => by
  obtain ⟨P, G, S, h⟩ := h
  exact h σ H S (Step.refl _ _)
theorem ds_ct : PS X (.Continue pos) (tS e W cCt) := ps_continue.imp fun D σ H h => by
  obtain ⟨P, G, S, h⟩ := h
  exact h σ H S (Step.refl _ _)
variable {a : Expr} {fa : EF}
def cDrop (fa : EF) : SF := fun G => (fa G).bind fun _ G1 => .ok .nx G1
theorem ds_expr (he : PE X a (tD e W fa)) (hs : swapsWith a none pos.line X.env = pure false := by rfl) : PS X (.Expr a pos) (tS e W (cDrop fa)) := (ps_expr he hs).imp fun D σ H h => by
  obtain ⟨P, G, S, h⟩ := h
  exact PostS.bindD S h fun pv G1 v H1 r q => q σ H1 r.tmp.1 r.tmp.2.1
def cIf (c : TF) (f g : SF) : SF := fun G => (c G).bind fun b G1 => if b = true then f G1 else g G1
theorem ds_if {c : Expr} {t u : List Stmt} {fc : TF} {f g : SF} (hc : PT X c (tT e W fc)) (h1 : PSs X t (tS e W f)) (h2 : PSs X u (tS e W g)) : PS X (.If c t u pos) (tS e W (cIf fc f g)) := (ps_if hc h1 h2).imp fun D σ H h => by
  obtain ⟨P, G, S, h⟩ := h
  refine PostS.bindT S h fun b G1 H1 S1 st1 q => ?_
  cases b
  · exact iteF (tS_at S1 (PostS.start (show PostS e W P _ H D (g G1) from q) st1))
  · exact iteT (tS_at S1 (PostS.start (show PostS e W P _ H D (f G1) from q) st1))

/-! ### return -/
def retK (pv : PV) (G1 : List Sl) : R Ctl := match pv with
  | .val d => .ok (.ret (.val d)) G1
  | .fr d => .ok (.ret (.fr d)) G1
  | .sl i => match G1[i]? with
    | some (.own d) => .ok (.ret (.fr d)) (G1.set i .no)
    | some (.imm d) => .ok (.ret (.val d)) G1
    | _ => .bad
def cRet (fa : EF) : SF := fun G => (fa G).bind retK
def cRetN : SF := fun G => .ok (.ret (.val .non)) G
theorem Zn.set_sub {i : Nat} {s : Sl} (hs : ∀ d, s ≠ .own d) {τ : L2.St} : ∀ a, Zn P (G.set i s) τ a → Zn P G τ a := Zn.freeze hs
/-- an own object goes to the end -/
theorem Sat.moveOut (S : Sat e P G σ H) {i : Nat} {d : D} {a : Addr} (hi : G[i]? = some (.own d)) (ha : σ[i]? = some (some (.ref a))) : Sat e P (G.set i .no ++ [.own d]) (σ ++ [some (.ref a)]) H := by
  have hz : ∀ b, Zn P (G.set i .no ++ [.own d]) (σ ++ [some (.ref a)]) b → Zn P G σ b := fun b z => by
    rcases z with z | ⟨j, d', h1, h2⟩
    · exact .inl z
    · by_cases hj : j < G.length
      · rw [List.getElem?_append_left (by simpa using hj)] at h1
        rw [List.getElem?_append_left (S.len ▸ hj)] at h2
        exact Zn.freeze (fun _ z => by cases z) b (.inr ⟨j, d', h1, h2⟩)
      · have hj2 : j = G.length := by
          have := (List.getElem?_eq_some_iff.mp h1).1
          simp at this; omega
        subst hj2
        rw [S.len] at h2
        simp at h2
        subst h2
        exact .inr ⟨i, d, hi, ha⟩
  have old : ∀ {j : Nat} {s : Sl}, (G.set i .no ++ [.own d])[j]? = some s → (j = i ∧ s = .no) ∨ (j ≠ i ∧ j < G.length ∧ G[j]? = some s) ∨ (j = G.length ∧ s = .own d) := fun {j s} h => by
    by_cases hj : j < G.length
    · rw [List.getElem?_append_left (by simpa using hj)] at h
      rcases set_get h with ⟨h1, h2, _⟩ | ⟨h1, h2⟩
      · exact .inl ⟨h1.symm, h2⟩
      · exact .inr (.inl ⟨Ne.symm h1, hj, h2⟩)
    · have hj2 : j = G.length := by
        have := (List.getElem?_eq_some_iff.mp h).1
        simp at this; omega
      subst hj2
      simp at h
      exact .inr (.inr ⟨rfl, h.symm⟩)
  have sg : ∀ {j : Nat}, j < G.length → (σ ++ [some (V.ref a)])[j]? = σ[j]? := fun {j} hj => List.getElem?_append_left (S.len ▸ hj)
  have se : (σ ++ [some (V.ref a)])[G.length]? = some (some (.ref a)) := by rw [S.len]; simp
  refine ⟨by simpa using S.len, fun j s h => ?_, fun j k d1 d2 b h1 h2 h3 h4 => ?_, fun j k d1 d2 b h1 h2 h3 h4 => ?_, S.keep, S.live, S.z0, S.wz⟩
  · rcases old h with ⟨rfl, rfl⟩ | ⟨hj, hl, h⟩ | ⟨rfl, rfl⟩
    · trivial
    · have q := (S.slot j s h).zone hz
      cases s <;> simpa only [SlOk, sg hl] using q
    · obtain ⟨b, q1, q2, q3, q4⟩ := S.slot i _ hi
      rw [ha] at q1; cases q1
      exact ⟨a, se, q2, q3, q4.step ((Step.refl _ _).zone hz) rfl⟩
  · rcases old h1 with ⟨_, z⟩ | ⟨hj, hl, g1⟩ | ⟨rfl, _⟩
    · cases z
    · rw [sg hl] at h3
      rcases old h2 with ⟨_, z⟩ | ⟨hk, hl2, g2⟩ | ⟨rfl, _⟩
      · cases z
      · rw [sg hl2] at h4
        exact S.dist j k d1 d2 b g1 g2 h3 h4
      · rw [se] at h4; cases h4
        exact absurd (S.dist j i d1 d a g1 hi h3 ha) hj
    · rw [se] at h3; cases h3
      rcases old h2 with ⟨_, z⟩ | ⟨hk, hl2, g2⟩ | ⟨rfl, _⟩
      · cases z
      · rw [sg hl2] at h4
        exact absurd (S.dist k i d2 d a g2 hi h4 ha) hk
      · rfl
  · rcases old h1 with ⟨_, z⟩ | ⟨hj, hl, g1⟩ | ⟨_, z⟩
    · cases z
    · rcases old h2 with ⟨_, z⟩ | ⟨hk, hl2, g2⟩ | ⟨_, z⟩
      · cases z
      · rw [sg hl] at h3
        rw [sg hl2] at h4
        exact S.par j k d1 d2 b g1 g2 h3 h4
      · cases z
    · cases z
theorem retK_ok {D : Ends} {pv : PV} {v : V} {Z0 : Zo} {H0 : Hp} (r : Res e P σ Z H pv G1 v H1) (q : PostS e W P Z0 H0 D (retK pv G1)) : D.rt v H1 := by
  cases pv with
  | val d => exact q v σ H1 r.1 r.2.2
  | fr d =>
    obtain ⟨p, rfl, S, _⟩ := r
    exact q p σ H1 S
  | sl i =>
    obtain ⟨S, st, hv⟩ := r
    simp only [retK] at q
    split at q
    · rename_i d q1
      obtain ⟨a, h1, _⟩ := S.slot _ _ q1
      rw [hv] at h1; cases h1
      exact q a σ H1 (S.moveOut q1 hv)
    · rename_i d q1
      obtain ⟨u, h1, h2⟩ := S.slot _ _ q1
      rw [hv] at h1; cases h1
      exact q v σ H1 S h2
    · exact q.elim
theorem ds_ret (he : PE X a (tD e W fa)) : PS X (.Return (some a) pos) (tS e W (cRet fa)) := (ps_ret he).imp fun D σ H h => by
  obtain ⟨P, G, S, h⟩ := h
  exact PostS.bindD S h fun pv G1 v H1 r q => retK_ok r q
theorem ds_retN : PS X (.Return none pos) (tS e W cRetN) := ps_retN.imp fun D σ H h => by
  obtain ⟨P, G, S, h⟩ := h
  exact h _ σ H S rfl

/-! ### stores to a name -/
def isLnd : Sl → Bool
  | .lnd _ => true
  | _ => false
def put (i : Nat) (pv : PV) (G : List Sl) : Option (List Sl) := match G[i]? with
  | none => none
  | some s => if isLnd s then none else (match pv with
    | .val d => some (G.set i (.imm d))
    | .fr d => some (G.set i (.own d))
    | .sl j => match esc (.sl j) G with
      | some (d, G1) => some (G1.set i (.imm d))
      | none => none)
theorem set_len {α : Type} {l : List α} {i j : Nat} {x : α} : (l.set i x)[j]? = if i = j then (if i < l.length then some x else none) else l[j]? := by
  rw [List.getElem?_set]
theorem Sat.setImm (S : Sat e P G σ H) {i : Nat} {d : D} {v : V} (r : Rp e (Zn P G σ) H d v) (hl : ∀ d, G[i]? ≠ some (.lnd d)) (hi : i < G.length) : Sat e P (G.set i (.imm d)) (σ.set i (some v)) H ∧ ∀ a, Zn P (G.set i (.imm d)) (σ.set i (some v)) a → Zn P G σ a := by
  have hz : ∀ a, Zn P (G.set i (.imm d)) (σ.set i (some v)) a → Zn P G σ a := fun a z => by
    rcases z with z | ⟨j, d', h1, h2⟩
    · exact .inl z
    · rcases set_get h1 with ⟨_, h, _⟩ | ⟨hj, h1⟩
      · cases h
      · rw [List.getElem?_set_ne hj] at h2
        exact .inr ⟨j, d', h1, h2⟩
  refine ⟨⟨by simpa using S.len, fun j s h => ?_, fun j k d1 d2 b h1 h2 h3 h4 => ?_, fun j k d1 d2 b h1 h2 h3 h4 => ?_, S.keep, S.live, S.z0, S.wz⟩, hz⟩
  · rcases set_get h with ⟨rfl, rfl, _⟩ | ⟨hj, h⟩
    · exact ⟨v, by rw [List.getElem?_set_self (S.len ▸ hi)], r.zone hz⟩
    · have q := (S.slot j s h).zone hz
      cases s <;> simpa only [SlOk, List.getElem?_set_ne hj] using q
  · rcases set_get h1 with ⟨_, h, _⟩ | ⟨hj, h1⟩
    · cases h
    · rcases set_get h2 with ⟨_, h, _⟩ | ⟨hk, h2⟩
      · cases h
      · rw [List.getElem?_set_ne hj] at h3
        rw [List.getElem?_set_ne hk] at h4
        exact S.dist j k d1 d2 b h1 h2 h3 h4
  · rcases set_get h1 with ⟨_, h, _⟩ | ⟨hj, h1⟩
    · cases h
    · rcases set_get h2 with ⟨_, h, _⟩ | ⟨hk, h2⟩
      · cases h
      · rw [List.getElem?_set_ne hj] at h3
        rw [List.getElem?_set_ne hk] at h4
        exact S.par j k d1 d2 b h1 h2 h3 h4
theorem Sat.setOwn {d : D} {p : Addr} (S : Sat e P (G ++ [.own d]) (σ ++ [some (.ref p)]) H) {i : Nat} (hl : ∀ d, G[i]? ≠ some (.lnd d)) (hi : i < G.length) : Sat e P (G.set i (.own d)) (σ.set i (some (.ref p))) H ∧ ∀ a, Zn P (G.set i (.own d)) (σ.set i (some (.ref p))) a → Zn P (G ++ [.own d]) (σ ++ [some (.ref p)]) a := by
  have lS : G.length = σ.length := by have := S.len; simpa using this
  have le : (G ++ [Sl.own d])[G.length]? = some (.own d) := by simp
  have se : (σ ++ [some (V.ref p)])[G.length]? = some (some (.ref p)) := by rw [lS]; simp
  have hz : ∀ a, Zn P (G.set i (.own d)) (σ.set i (some (.ref p))) a → Zn P (G ++ [.own d]) (σ ++ [some (.ref p)]) a := fun a z => by
    rcases z with z | ⟨j, d', h1, h2⟩
    · exact .inl z
    · rcases set_get h1 with ⟨rfl, h, _⟩ | ⟨hj, h1⟩
      · cases h
        rw [List.getElem?_set_self (lS ▸ hi)] at h2
        cases h2
        exact .inr ⟨G.length, _, le, se⟩
      · rw [List.getElem?_set_ne hj] at h2
        exact .inr ⟨j, d', get_append h1, get_append h2⟩
  refine ⟨⟨by simpa using lS, fun j s h => ?_, fun j k d1 d2 b h1 h2 h3 h4 => ?_, fun j k d1 d2 b h1 h2 h3 h4 => ?_, S.keep, S.live, S.z0, S.wz⟩, hz⟩
  · rcases set_get h with ⟨rfl, rfl, _⟩ | ⟨hj, h⟩
    · obtain ⟨a, q1, q2, q3, q4⟩ := S.slot G.length (.own d) le
      rw [se] at q1; cases q1
      exact ⟨p, by rw [List.getElem?_set_self (lS ▸ hi)], q2, q3, q4.step ((Step.refl _ _).zone hz) rfl⟩
    · have q := (S.slot j s (get_append h)).zone hz
      have hj' : j < σ.length := lS ▸ (List.getElem?_eq_some_iff.mp h).1
      cases s <;> simpa only [SlOk, List.getElem?_set_ne hj, List.getElem?_append_left hj'] using q
  · rcases set_get h1 with ⟨rfl, h, _⟩ | ⟨hj, h1⟩
    · rcases set_get h2 with ⟨rfl, h, _⟩ | ⟨hk, h2⟩
      · rfl
      · rw [List.getElem?_set_self (lS ▸ hi)] at h3
        rw [List.getElem?_set_ne hk] at h4
        cases h3
        have := S.dist k G.length d2 d p (get_append h2) le (get_append h4) se
        have := (List.getElem?_eq_some_iff.mp h2).1
        omega
    · rw [List.getElem?_set_ne hj] at h3
      rcases set_get h2 with ⟨rfl, h, _⟩ | ⟨hk, h2⟩
      · rw [List.getElem?_set_self (lS ▸ hi)] at h4
        cases h4
        have := S.dist j G.length d1 d p (get_append h1) le (get_append h3) se
        have := (List.getElem?_eq_some_iff.mp h1).1
        omega
      · rw [List.getElem?_set_ne hk] at h4
        exact S.dist j k d1 d2 b (get_append h1) (get_append h2) (get_append h3) (get_append h4)
  · rcases set_get h1 with ⟨_, h, _⟩ | ⟨hj, h1⟩
    · cases h
    · rcases set_get h2 with ⟨_, h, _⟩ | ⟨hk, h2⟩
      · cases h
      · rw [List.getElem?_set_ne hj] at h3
        rw [List.getElem?_set_ne hk] at h4
        exact S.par j k d1 d2 b (get_append h1) (get_append h2) (get_append h3) (get_append h4)
theorem put_ok {i : Nat} {pv : PV} {v : V} (r : Res e P σ Z H pv G1 v H1) (h : put i pv G1 = some G2) : Sat e P G2 (σ.set i (some v)) H1 ∧ Step Z H (Zn P G2 (σ.set i (some v))) H1 := by
  unfold put at h
  split at h
  · cases h
  · rename_i s q
    have hi : i < G1.length := (List.getElem?_eq_some_iff.mp q).1
    split at h
    · cases h
    · rename_i nl
      have hl : ∀ d, G1[i]? ≠ some (.lnd d) := fun d z => by rw [q] at z; cases z; exact nl rfl
      cases pv with
      | val d =>
        cases h
        obtain ⟨S, st, rp⟩ := r
        obtain ⟨h1, h2⟩ := S.setImm rp hl hi
        exact ⟨h1, st.zone h2⟩
      | fr d =>
        cases h
        obtain ⟨p, rfl, S, st⟩ := r
        obtain ⟨h1, h2⟩ := S.setOwn hl hi
        exact ⟨h1, st.zone h2⟩
      | sl j =>
        simp only at h
        split at h
        · rename_i d G3 q1
          cases h
          obtain ⟨S, st, hv⟩ := r
          obtain ⟨S3, st3, r3⟩ := esc_ok (p := .sl j) S hv q1
          have hl3 : ∀ d, G3[i]? ≠ some (.lnd d) := fun d z => by
            unfold esc at q1
            simp only at q1
            split at q1 <;> cases q1
            · exact hl d z
            · rcases set_get z with ⟨_, z, _⟩ | ⟨_, z⟩
              · cases z
              · exact hl d z
          have hi3 : i < G3.length := by
            have a1 := S3.len
            have a2 := S.len
            omega
          obtain ⟨h1, h2⟩ := S3.setImm r3 hl3 hi3
          exact ⟨h1, (st.trans st3).zone h2⟩
        · cases h
def cSet (i : Nat) (fa : EF) : SF := fun G => (fa G).bind fun pv G1 => match put i pv G1 with
  | some G2 => .ok .nx G2
  | none => .bad
theorem ds_set {i : Nat} {x : Str} {pos' : Pos} (hN : X.N.Nodup) (hi : X.N[i]? = some x) (hx : Loc X.env.scope x) (he : PE X a (tD e W fa)) (hs : swapsWith a (some (.Name x pos')) pos.line X.env = pure false := by rfl) (hf : X.fn x = true ∨ X.env.scope.names.lookup x = some .local := by first | exact .inl rfl | exact .inr rfl | assumption) :
    PS X (.Assign [.Name x pos'] a pos) (tS e W (cSet i fa)) := (ps_set hN hi hx he hs hf).imp fun D σ H h => by
  obtain ⟨P, G, S, h⟩ := h
  refine PostS.bindD S h fun pv G1 v H1 r q => ?_
  split at q
  · rename_i G2 q1
    obtain ⟨S2, st2⟩ := put_ok r q1
    exact q _ H1 S2 st2
  · exact q.elim
end
end PD

/-! PD9: targets, loops, stores into objects, defs -/
namespace PD
open PySem PySem.Spec L2

section
variable {e : Ev} {W : WX} {P : Pre} {σ : L2.St} {G G1 G2 : List Sl} {H H1 H2 : Hp} {Z Z' : Zo} {X : Cx} {pos : Pos} {a b c : Expr} {fa fb : EF}

/-! ### targets of plain data -/
abbrev GF := D → List Sl → Option (List Sl)
def tG (e : Ev) (g : GF) : TG := fun v σ H Q => ∃ P G d, Sat e P G σ H ∧ Rp e (Zn P G σ) H d v ∧ match g d G with
  | some G2 => ∀ σ2, Sat e P G2 σ2 H → Step (Zn P G σ) H (Zn P G2 σ2) H → Q σ2 H
  | none => False
def gN (i : Nat) : GF := fun d G => put i (.val d) G
theorem dg_name {i : Nat} {x : Str} (hN : X.N.Nodup) (hi : X.N[i]? = some x) (hx : Loc X.env.scope x) (hf : X.fn x = true ∨ X.env.scope.names.lookup x = some .local := by first | exact .inl rfl | exact .inr rfl | assumption) : PG X (.Name x pos) (tG e (gN i)) :=
  (pg_name hN hi hx hf).imp fun v σ H Q h => by
    obtain ⟨P, G, d, S, r, h⟩ := h
    split at h
    · rename_i G2 q
      obtain ⟨h1, h2⟩ := put_ok (pv := .val d) (Z := Zn P G σ) (H := H) ⟨S, Step.refl _ _, r⟩ q
      exact h _ h1 h2
    · exact h.elim
/-- several targets in a row -/
def tGs (e : Ev) (g : List D → List Sl → Option (List Sl)) : TGs := fun vs σ H Q => ∃ P G ds, Sat e P G σ H ∧ Rps e (Zn P G σ) H ds vs ∧ match g ds G with
  | some G2 => ∀ σ2, Sat e P G2 σ2 H → Step (Zn P G σ) H (Zn P G2 σ2) H → Q σ2 H
  | none => False
def gsNil : List D → List Sl → Option (List Sl)
  | [], G => some G
  | _, _ => none
def gsCons (g : GF) (gs : List D → List Sl → Option (List Sl)) : List D → List Sl → Option (List Sl)
  | d :: ds, G => match g d G with
    | some G1 => gs ds G1
    | none => none
  | [], _ => none
theorem dgs_nil : PGs X [] (tGs e gsNil) := ⟨fun pins s σ H vs us Q I r h => pgs_nil.run pins s σ H vs us Q I r (by
  obtain ⟨P, G, ds, S, rp, h⟩ := h
  cases ds with
  | nil => cases rp; exact ⟨rfl, h σ S (Step.refl _ _)⟩
  | cons d ds => exact h.elim)⟩
theorem dgs_cons {es : List Expr} {g : GF} {gs : List D → List Sl → Option (List Sl)} (h1 : PG X a (tG e g)) (h2 : PGs X es (tGs e gs)) (hs : (assignEach (a :: es) X.env).map (·.2) = assign a X.env :: (assignEach es X.env).map (·.2) := by rfl) : PGs X (a :: es) (tGs e (gsCons g gs)) :=
  ⟨fun pins s σ H vs us Q I r h => (pgs_cons h1 h2 hs).run pins s σ H vs us Q I r (by
    obtain ⟨P, G, ds, S, rp, h⟩ := h
    cases ds with
    | nil => exact h.elim
    | cons d ds =>
      obtain ⟨v, r', rfl, r1, r2⟩ := rp
      refine ⟨v, r', rfl, P, G, d, S, r1, ?_⟩
      simp only [gsCons] at h
      cases q : g d G with
      | none => rw [q] at h; exact h
      | some G1 =>
        rw [q] at h
        intro σ2 S2 st2
        refine ⟨P, G1, ds, S2, Rps.step st2 _ _ r2, ?_⟩
        simp only at h
        cases q2 : gs ds G1 with
        | none => rw [q2] at h; exact h
        | some G2 => rw [q2] at h; exact fun σ3 S3 st3 => h σ3 S3 (st2.trans st3))⟩
def gT (n : Nat) (gs : List D → List Sl → Option (List Sl)) : GF := fun d G => match d with
  | .tup ds => if ds.length = n then gs ds G else none
  | _ => none
theorem dg_tup {es : List Expr} {k n : Nat} {gs : List D → List Sl → Option (List Sl)} (hK : X.K = e.K) (hc : X.calm = true) (h : PGs X es (tGs e gs)) (hn : (assignEach es X.env).length = n := by rfl) (hst : (assignEach es X.env).findIdx? (·.1) = none := by rfl) : PG X (.Tuple es k pos) (tG e (gT n gs)) :=
  (pg_tup hc h hn hst).imp fun v σ H Q h => by
    obtain ⟨P, G, d, S, r, h⟩ := h
    unfold gT at h
    cases d with
    | tup ds =>
      obtain ⟨a, vs, rfl, h1, h2⟩ := r
      simp only at h
      by_cases hl : ds.length = n
      · rw [if_pos hl] at h
        exact ⟨a, vs, rfl, hK ▸ h1.sq, by rw [h2.length]; exact hl, P, G, ds, S, h2, h⟩
      · rw [if_neg hl] at h; exact h.elim
    | _ => exact h.elim
/-- target = value, by plain data -/
def cAsg (g : GF) (fa : EF) : SF := fun G => (fa G).bind fun pv G1 => match esc pv G1 with
  | some (d, G2) => (match g d G2 with
    | some G3 => .ok .nx G3
    | none => .bad)
  | none => .bad
theorem ds_asg {tg : Expr} {g : GF} (he : PE X a (tD e W fa)) (hg : PG X tg (tG e g)) (hs : swapsWithSole [tg] a pos.line X.env = pure false := by rfl) (hw : swappedStores [tg] a X.env = pure none := by rfl)
    (h1 : (assignEach [tg] X.env).map (·.2) = [assign tg X.env] := by rfl) : PS X (.Assign [tg] a pos) (tS e W (cAsg g fa)) := (ps_asg he hg hs hw h1).imp fun D σ H h => by
  obtain ⟨P, G, S, h⟩ := h
  refine PostS.bindD S h fun pv G1 v H1 r q => ?_
  obtain ⟨S1, st1, t1⟩ := r.tmp
  split at q
  · rename_i d G2 q1
    obtain ⟨S2, st2, r2⟩ := esc_ok S1 t1 q1
    refine ⟨P, G2, d, S2, r2, ?_⟩
    split at q
    · rename_i G3 q2
      exact fun σ2 S3 st3 => q σ2 H1 S3 ((st1.trans st2).trans st3)
    · exact q.elim
  · exact q.elim

/-! ### loops -/
/-- what is walked: J yields the data ds in this order -/
def Kp (P : Pre) (H' : Hp) : Prop := ∀ a o, P.H0 a = some o → ¬ P.Wr a → ¬ P.Xz a → H' a = some o
theorem Sat.kp (S : Sat e P G σ H) : Kp P H := fun a o h w _ => S.keep a o h w
structure ItOk (e : Ev) (P : Pre) (Z : Zo) (H : Hp) (J : It) (ds : List D) : Prop where
  go : ∀ Z' H' i, Step Z H Z' H' → Kp P H' → i < ds.length → J.go i H'
  yl : ∀ Z' H' (i : Nat) d x H'', Step Z H Z' H' → Kp P H' → (∀ a, Z' a → H' a ≠ none) → ds[i]? = some d → J.yld i H' x H'' → Grow H' H'' ∧ Rp e Z' H'' d x
  st : ∀ Z' H', Step Z H Z' H' → Kp P H' → J.stop ds.length H'
def tI (e : Ev) (W : WX) (f : F (List D)) : TI := fun σ H R => ∃ P G, Sat e P G σ H ∧ PostR e W P σ (Zn P G σ) H (fun ds G1 => ∀ J H1, Sat e P G1 σ H1 → Step (Zn P G σ) H (Zn P G1 σ) H1 → ItOk e P (Zn P G1 σ) H1 J ds → R J H1) (f G)
def fLoop (g : GF) (b : SF) : List D → SF
  | [] => fun G => .ok .nx G
  | d :: ds => fun G => match g d G with
    | none => .bad
    | some G1 => (b G1).bind fun c G2 => match c with
      | .nx => fLoop g b ds G2
      | .ct => fLoop g b ds G2
      | .brk => .ok .nx G2
      | .ret v => .ok (.ret v) G2
def cFor (src : F (List D)) (g : GF) (b : SF) : SF := fun G => (src G).bind fun ds G1 => fLoop g b ds G1
theorem ItOk.step {J : It} {ds : List D} (h : ItOk e P Z H J ds) (s : Step Z H Z' H1) : ItOk e P Z' H1 J ds :=
  ⟨fun Z2 H2 i s2 => h.go Z2 H2 i (s.trans s2), fun Z2 H2 i d x H3 s2 => h.yl Z2 H2 i d x H3 (s.trans s2), fun Z2 H2 s2 => h.st Z2 H2 (s.trans s2)⟩
theorem ds_for {tg iter : Expr} {body : List Stmt} {src : F (List D)} {g : GF} {fb : SF} (hp : PassesOwn (model X.prog X.w) X.A X.env X.xe) (hc : X.calm = true) (hi : PI X tg iter (tI e W src)) (hg : PG X tg (tG e g)) (hb : PSs X body (tS e W fb))
    (hs : ∀ x, foldedSetIterable iter X.env x = pure x := by intro _; rfl) : PS X (.For tg iter body [] pos) (tS e W (cFor src g fb)) := (ps_for hp hc hi hg hb hs).imp fun Dn σ H h => by
  obtain ⟨P, G, S, h⟩ := h
  refine ⟨P, G, S, ?_⟩
  unfold cFor at h
  cases q : src G with
  | bad => rw [q] at h; exact h.elim
  | ex c ns ds G1 => rw [q] at h; exact fun cls dx H1 S1 st1 r => h cls dx σ H1 S1 st1 r
  | ok ds G1 =>
    rw [q] at h
    intro J H1 S1 st1 it
    have h' : PostS e W P (Zn P G1 σ) H1 Dn (fLoop g fb ds G1) := PostS.start h st1
    refine ⟨fun i m σ' H' => m = ds.length - i ∧ i ≤ ds.length ∧ ∃ Gi, Sat e P Gi σ' H' ∧ Step (Zn P G1 σ) H1 (Zn P Gi σ') H' ∧ PostS e W P (Zn P G1 σ) H1 Dn (fLoop g fb (ds.drop i) Gi), ⟨ds.length, by simp, Nat.zero_le _, G1, S1, Step.refl _ _, by simpa using h'⟩, ?_⟩
    rintro i m σ' H' ⟨rfl, hi, Gi, Si, sti, post⟩
    by_cases hlt : i < ds.length
    · refine .inr ⟨it.go _ _ i sti Si.kp hlt, ?_⟩
      rw [List.drop_eq_getElem_cons hlt] at post
      simp only [fLoop] at post
      refine ⟨fun σ2 H2 => ∃ G2, Sat e P G2 σ2 H2 ∧ Step (Zn P G1 σ) H1 (Zn P G2 σ2) H2 ∧ PostS e W P (Zn P G1 σ) H1 Dn (fLoop g fb (ds.drop (i + 1)) G2), fun σ2 H2 ⟨G2, a1, a2, a3⟩ => ⟨ds.length - (i + 1), by omega, rfl, hlt, G2, a1, a2, a3⟩, fun x H'' y => ?_⟩
      obtain ⟨gr, rp⟩ := it.yl _ _ i ds[i] x H'' sti Si.kp (fun a z => Si.zlive z) (List.getElem?_eq_getElem hlt) y
      have S2 := Si.grow gr
      have st2 := sti.trans (step_of_grow Si gr)
      refine ⟨P, Gi, ds[i], S2, rp, ?_⟩
      split at post
      · exact post.elim
      · rename_i G3 q3
        rw [q3]
        intro σ3 S3 st3
        have st3' := st2.trans st3
        refine ⟨P, G3, S3, ?_⟩
        cases qb : fb G3 with
        | bad => rw [qb] at post; exact post.elim
        | ex c ns es G4 => rw [qb] at post; exact fun cls dx σ4 H4 S4 st4 r => post cls dx σ4 H4 S4 (st3'.trans st4) r
        | ok c G4 =>
          rw [qb] at post
          cases c with
          | nx => exact fun σ4 H4 S4 st4 => ⟨G4, S4, st3'.trans st4, post⟩
          | ct => exact fun σ4 H4 S4 st4 => ⟨G4, S4, st3'.trans st4, post⟩
          | brk => exact fun σ4 H4 S4 st4 => post σ4 H4 S4 (st3'.trans st4)
          | ret v => cases v <;> exact post
    · have e1 : i = ds.length := by omega
      subst e1
      refine .inl ⟨it.st _ _ sti Si.kp, ?_⟩
      rw [List.drop_length] at post
      exact post σ' H' Si sti
theorem PostS.bindT_at {f : TF} {k : Bool → List Sl → R Ctl} {D : Ends} {Q : Bool → Hp → Prop} (S : Sat e P G σ H1) (st : Step Z H (Zn P G σ) H1) (h : PostS e W P Z H D ((f G).bind k))
    (hk : ∀ b G1 H2, Sat e P G1 σ H2 → Step (Zn P G σ) H1 (Zn P G1 σ) H2 → PostS e W P Z H D (k b G1) → Q b H2) : tT e W f σ H1 Q := by
  refine ⟨P, G, S, ?_⟩
  cases q : f G with
  | bad => rw [q] at h; exact h.elim
  | ex c ns ds G1 => rw [q] at h; exact fun cls dx H2 S1 st1 r => h cls dx σ H2 S1 (st.trans st1) r
  | ok pv G1 => rw [q] at h; exact fun H2 S1 st1 => hk pv G1 H2 S1 st1 h
/-- while, at most n turns -/
def fWh (t : TF) (b : SF) : Nat → SF
  | 0 => fun _ => .bad
  | n + 1 => fun G => (t G).bind fun k G1 => if k = true then (b G1).bind fun c G2 => match c with
      | .nx => fWh t b n G2
      | .ct => fWh t b n G2
      | .brk => .ok .nx G2
      | .ret v => .ok (.ret v) G2
    else .ok .nx G1
theorem ds_while {t : Expr} {body : List Stmt} {ft : TF} {fb : SF} (n : Nat) (hp : PassesOwn (model X.prog X.w) X.A X.env X.xe) (ht : PT X t (tT e W ft)) (hb : PSs X body (tS e W fb)) : PS X (.While t body [] pos) (tS e W (fWh ft fb n)) := (ps_while hp ht hb).imp fun Dn σ H h => by
  obtain ⟨P, G, S, h⟩ := h
  refine ⟨fun m σ' H' => ∃ Gi, Sat e P Gi σ' H' ∧ Step (Zn P G σ) H (Zn P Gi σ') H' ∧ PostS e W P (Zn P G σ) H Dn (fWh ft fb m Gi), ⟨n, G, S, Step.refl _ _, h⟩, ?_⟩
  rintro m σ' H' ⟨Gi, Si, sti, post⟩
  cases m with
  | zero => exact post.elim
  | succ m =>
    simp only [fWh] at post
    refine PostS.bindT_at Si sti post fun k G1 H1 S1 st1 q => ?_
    have st1' := sti.trans st1
    cases k with
    | false => exact iteF (q σ' H1 S1 st1')
    | true =>
      refine iteT ⟨fun σ2 H2 => ∃ G2, Sat e P G2 σ2 H2 ∧ Step (Zn P G σ) H (Zn P G2 σ2) H2 ∧ PostS e W P (Zn P G σ) H Dn (fWh ft fb m G2), fun σ2 H2 ⟨G2, a1, a2, a3⟩ => ⟨m, Nat.lt_succ_self m, G2, a1, a2, a3⟩, ?_⟩
      refine ⟨P, G1, S1, ?_⟩
      rw [if_pos rfl] at q
      cases qb : fb G1 with
      | bad => rw [qb] at q; exact q.elim
      | ex c ns es G4 => rw [qb] at q; exact fun cls dx σ4 H4 S4 st4 r => q cls dx σ4 H4 S4 (st1'.trans st4) r
      | ok c G4 =>
        rw [qb] at q
        cases c with
        | nx => exact fun σ4 H4 S4 st4 => ⟨G4, S4, st1'.trans st4, q⟩
        | ct => exact fun σ4 H4 S4 st4 => ⟨G4, S4, st1'.trans st4, q⟩
        | brk => exact fun σ4 H4 S4 st4 => q σ4 H4 S4 (st1'.trans st4)
        | ret v => cases v <;> exact q

/-! ### what is walked -/
theorem di_of {iter tg : Expr} {wi : TI} {f : F (List D)} (h : PI X tg iter wi) (k : ∀ σ H R, tI e W f σ H R → wi σ H R) : PI X tg iter (tI e W f) := ⟨fun pins s σ H R I q => h.run pins s σ H R I (k _ _ _ q)⟩
def itemsOf : D → Option (List D)
  | .lst ds => some ds
  | .fz ds => some ds
  | _ => none
/-- a list, as plain data -/
def sLst (fa : EF) : F (List D) := fun G => (fa G).bind fun pv G1 => match esc pv G1 with
  | some (d, G2) => (match itemsOf d with
    | some ds => .ok ds G2
    | none => .bad)
  | none => .bad
def sTup (fa : EF) : F (List D) := fun G => (fa G).bind fun pv G1 => match esc pv G1 with
  | some (.tup ds, G2) => .ok ds G2
  | _ => .bad
theorem rp_fz {ds : List D} {d : D} {v : V} {K : PySem.W.Frag} (hK : K = e.K) (h : Rp e Z H d v) (hd : itemsOf d = some ds) : ∃ a vs, v = .ref a ∧ LsZ K Z H a vs ∧ Rps e Z H ds vs := by
  subst hK
  cases d with
  | lst ds' =>
    cases hd
    obtain ⟨a, vs, rfl, h1, h2⟩ := h
    exact ⟨a, vs, rfl, .inl ⟨h1.1, .inl h1.2⟩, h2⟩
  | fz ds' =>
    cases hd
    exact h
  | _ => cases hd
theorem it_list {a : Addr} {vs : List V} {ds : List D} {K : PySem.W.Frag} (h : LsZ K Z H a vs) (r : Rps e Z H ds vs) : ItOk e P Z H (Itl K a) ds where
  go := fun Z' H' i s _ hi => ⟨vs, vs[i]'(by rw [r.length]; exact hi), LsZ.sq (h.imp s.rd id), by simp⟩
  yl := fun Z' H' i d x H'' s _ _ hd hy => by
    obtain ⟨rfl, hy⟩ := hy
    refine ⟨Grow.refl _, ?_⟩
    obtain ⟨w, h1, h2⟩ := (Rps.step s _ _ r).get hd
    have := hy vs (LsZ.sq (h.imp s.rd id))
    rw [h1] at this; cases this
    exact h2
  st := fun Z' H' s _ => ⟨vs, LsZ.sq (h.imp s.rd id), by rw [r.length]; exact Nat.le_refl _⟩
theorem it_tup {a : Addr} {vs : List V} {ds : List D} {K : PySem.W.Frag} (h : TsZ K Z H a vs) (r : Rps e Z H ds vs) : ItOk e P Z H (Itt K a) ds where
  go := fun Z' H' i s _ hi => ⟨vs, vs[i]'(by rw [r.length]; exact hi), TsZ.sq (h.imp s.rd id), by simp⟩
  yl := fun Z' H' i d x H'' s _ _ hd hy => by
    obtain ⟨rfl, hy⟩ := hy
    refine ⟨Grow.refl _, ?_⟩
    obtain ⟨w, h1, h2⟩ := (Rps.step s _ _ r).get hd
    have := hy vs (TsZ.sq (h.imp s.rd id))
    rw [h1] at this; cases this
    exact h2
  st := fun Z' H' s _ => ⟨vs, TsZ.sq (h.imp s.rd id), by rw [r.length]; exact Nat.le_refl _⟩
theorem PostR.bindI {f : EF} {k : PV → List Sl → R (List D)} {R' : It → Hp → Prop} {Q : VK} (S : Sat e P G σ H) (h : PostR e W P σ (Zn P G σ) H (fun ds G1 => ∀ J H1, Sat e P G1 σ H1 → Step (Zn P G σ) H (Zn P G1 σ) H1 → ItOk e P (Zn P G1 σ) H1 J ds → R' J H1) ((f G).bind k))
    (hk : ∀ pv G1 v H1, Res e P σ (Zn P G σ) H pv G1 v H1 → PostR e W P σ (Zn P G σ) H (fun ds G1 => ∀ J H1, Sat e P G1 σ H1 → Step (Zn P G σ) H (Zn P G1 σ) H1 → ItOk e P (Zn P G1 σ) H1 J ds → R' J H1) (k pv G1) → Q v H1) : tD e W f σ H Q :=
  ⟨P, G, S, h.bind.mono (fun pv G1 q v H1 r => hk pv G1 v H1 r q) fun _ _ s => s⟩
theorem di_list {tg : Expr} (hK : X.K = e.K) (he : PE X a (tD e W fa)) : PI X tg a (tI e W (sLst fa)) := di_of (pi_list he) fun σ H R h => by
  obtain ⟨P, G, S, h⟩ := h
  refine PostR.bindI S h fun pv G1 v H1 r q => ?_
  obtain ⟨S1, st1, t1⟩ := r.tmp
  split at q
  · rename_i d G2 q1
    obtain ⟨S2, st2, r2⟩ := esc_ok S1 t1 q1
    split at q
    · rename_i ds q2
      obtain ⟨a, vs, rfl, h1, h2⟩ := rp_fz hK r2 q2
      exact ⟨a, rfl, ⟨vs, h1.sq⟩, q _ H1 S2 (st1.trans st2) (it_list h1 h2)⟩
    · exact q.elim
  · exact q.elim
theorem di_tup {tg : Expr} (hK : X.K = e.K) (he : PE X a (tD e W fa)) : PI X tg a (tI e W (sTup fa)) := di_of (pi_tup he) fun σ H R h => by
  obtain ⟨P, G, S, h⟩ := h
  refine PostR.bindI S h fun pv G1 v H1 r q => ?_
  obtain ⟨S1, st1, t1⟩ := r.tmp
  split at q
  · rename_i ds G2 q1
    obtain ⟨S2, st2, r2⟩ := esc_ok S1 t1 q1
    obtain ⟨a, vs, rfl, h1, h2⟩ := r2
    rw [← hK] at h1
    exact ⟨a, rfl, ⟨vs, h1.sq⟩, q _ H1 S2 (st1.trans st2) (it_tup h1 h2)⟩
  · exact q.elim
def rangeD (lo : Int) (n : Nat) : List D := (List.range n).map fun i : Nat => D.int (lo + (i : Int))
theorem it_range {lo : Int} {n : Nat} : ItOk e P Z H (Itr lo n) (rangeD lo n) where
  go := fun Z' H' i s _ hi => by show i < n; simpa [rangeD] using hi
  yl := fun Z' H' i d x H'' s _ _ hd hy => by
    obtain ⟨rfl, rfl⟩ := hy
    refine ⟨Grow.refl _, ?_⟩
    unfold rangeD at hd
    rw [List.getElem?_map] at hd
    cases q : (List.range n)[i]? with
    | none => rw [q] at hd; cases hd
    | some j =>
      rw [q] at hd; cases hd
      rw [List.getElem?_range] at q
      · cases q; rfl
      · have := (List.getElem?_eq_some_iff.mp q).1; simpa using this
  st := fun Z' H' s _ => by show n ≤ _; simp [rangeD]
def rOk (j : Int) : Bool := decide (j.natAbs < 2 ^ 62)
theorem rOk_b {j : Int} (h : rOk j = true) : -(2 ^ 62) ≤ j ∧ j < 2 ^ 62 := by
  have := of_decide_eq_true h
  omega
/-- range(b), range(a, b) -/
def sRange1 (fs : AF) : F (List D) := fun G => (fs G).bind fun ps G1 => match ps with
  | [.val (.int j)] => if rOk j = true then .ok (rangeD 0 j.toNat) G1 else .bad
  | _ => .bad
def sRange2 (fs : AF) : F (List D) := fun G => (fs G).bind fun ps G1 => match ps with
  | [.val (.int i), .val (.int j)] => if rOk i = true ∧ rOk j = true then .ok (rangeD i (j - i).toNat) G1 else .bad
  | _ => .bad
theorem PostR.bindIA {f : AF} {k : List PV → List Sl → R (List D)} {R' : It → Hp → Prop} {Q : List V → Hp → Prop} (S : Sat e P G σ H) (h : PostR e W P σ (Zn P G σ) H (fun ds G1 => ∀ J H1, Sat e P G1 σ H1 → Step (Zn P G σ) H (Zn P G1 σ) H1 → ItOk e P (Zn P G1 σ) H1 J ds → R' J H1) ((f G).bind k))
    (hk : ∀ ps G1 vs H1, Sat e P G1 σ H1 → Step (Zn P G σ) H (Zn P G1 σ) H1 → Tmps e P σ G1 H1 ps vs → PostR e W P σ (Zn P G σ) H (fun ds G1 => ∀ J H1, Sat e P G1 σ H1 → Step (Zn P G σ) H (Zn P G1 σ) H1 → ItOk e P (Zn P G1 σ) H1 J ds → R' J H1) (k ps G1) → Q vs H1) : tA e W f σ H Q :=
  ⟨P, G, S, h.bind.mono (fun ps G1 q vs H1 S1 st1 t1 => hk ps G1 vs H1 S1 st1 t1 q) fun _ _ s => s⟩
theorem di_range1 {tg : Expr} {fs : AF} {p pos : Pos} (hg : Gl X "range") (hm : X.mg "range" = none) (ha : PA X [a] (tA e W fs)) (hs : starEach [a] X.env = [(false, eval a X.env)] := by rfl) : PI X tg (.Call (.Name "range" p) [a] [] pos) (tI e W (sRange1 fs)) := di_of (pi_range1 hg hm ha hs) fun σ H R h => by
  obtain ⟨P, G, S, h⟩ := h
  refine PostR.bindIA S h fun ps G1 vs H1 S1 st1 t1 q => ?_
  split at q
  · obtain ⟨v, r, rfl, rfl, rfl⟩ := t1
    split at q
    · rename_i hb
      have hb := rOk_b hb
      exact ⟨_, rfl, hb.1, hb.2, q _ H1 S1 st1 it_range⟩
    · exact q.elim
  · exact q.elim
theorem di_range2 {tg : Expr} {fs : AF} {p pos : Pos} (hg : Gl X "range") (hm : X.mg "range" = none) (ha : PA X [a, b] (tA e W fs)) (hs : starEach [a, b] X.env = [(false, eval a X.env), (false, eval b X.env)] := by rfl) (hs2 : starEach [b] X.env = [(false, eval b X.env)] := by rfl) : PI X tg (.Call (.Name "range" p) [a, b] [] pos) (tI e W (sRange2 fs)) := di_of (pi_range2 hg hm ha hs hs2) fun σ H R h => by
  obtain ⟨P, G, S, h⟩ := h
  refine PostR.bindIA S h fun ps G1 vs H1 S1 st1 t1 q => ?_
  split at q
  · obtain ⟨v, r, rfl, rfl, w, r2, rfl, rfl, rfl⟩ := t1
    split at q
    · rename_i hb
      have hb1 := rOk_b hb.1
      have hb2 := rOk_b hb.2
      exact ⟨_, _, rfl, ⟨hb1.1, hb1.2, hb2.1, hb2.2⟩, q _ H1 S1 st1 it_range⟩
    · exact q.elim
  · exact q.elim

/-- a list of the caller's, lent for reading -/
theorem it_bor {a : Addr} {vs : List V} {ds : List D} {K : PySem.W.Frag} (h : P.H0 a = some (.lst vs)) (hw : ¬ P.Wr a) (hx : ¬ P.Xz a) (r : Rps e Z H ds vs) : ItOk e P Z H (Itl K a) ds where
  go := fun Z' H' i s k hi => ⟨vs, vs[i]'(by rw [r.length]; exact hi), .inl (.inl (k a _ h hw hx)), by simp⟩
  yl := fun Z' H' i d x H'' s k _ hd hy => by
    obtain ⟨rfl, hy⟩ := hy
    refine ⟨Grow.refl _, ?_⟩
    obtain ⟨w, h1, h2⟩ := (Rps.step s _ _ r).get hd
    have := hy vs (.inl (.inl (k a _ h hw hx)))
    rw [h1] at this; cases this
    exact h2
  st := fun Z' H' s k => ⟨vs, .inl (.inl (k a _ h hw hx)), by rw [r.length]; exact Nat.le_refl _⟩
/-- list or tuple or text -/
def iSeq (K : PySem.W.Frag) (te : TE) : TI := fun σ H R => te σ H fun x H1 => (∃ a xs, x = .ref a ∧ SqL K H1 a xs ∧ R (Itl K a) H1) ∨ (∃ a xs, x = .ref a ∧ SqT K H1 a xs ∧ R (Itt K a) H1) ∨ ∃ z, x = .str z ∧ R (Its z) H1
theorem pi_seq {tg l : Expr} {tl : TE} (hl : PE X l tl) : PI X tg l (iSeq X.K tl) := by
  refine ⟨fun pins s σ H R I h => ?_⟩
  refine thn (hl.run pins s σ H _ I h) fun v s1 ⟨x, H1, I1, r1, q1⟩ => ?_
  rcases q1 with ⟨a, xs, rfl, hq, q⟩ | ⟨a, xs, rfl, hq, q⟩ | ⟨z, rfl, q⟩
  · cases r1
    obtain ⟨its, rv, p, hz⟩ := I1.list hq
    refine wpAny_pyIter_list p.isList ?_
    refine ⟨s1.heap.objs.size, [s1.heap.objs.size], _, _, H1, rfl, I1.kept (t' := s1.toks) fun b o e => Heap.get?_push_of_some _ e, turn_list a _, ⟨_, Heap.get?_push_size _ rfl, rfl, rfl⟩, fun b hb => ?_, q⟩
    have e : b = s1.heap.objs.size := by simpa using hb
    subst e
    exact I1.fpOk (Nat.le_refl _) (I1.hok.fresh (Nat.le_refl _))
  · cases r1
    obtain ⟨its, rv, p, hz⟩ := I1.tuple hq
    refine wpAny_pyIter_tuple (show s1.heap.IsTuple a its.toArray from p) ?_
    refine ⟨s1.heap.objs.size, [s1.heap.objs.size], _, _, H1, rfl, I1.kept (t' := s1.toks) fun b o e => Heap.get?_push_of_some _ e, turn_tuple a _, ⟨_, Heap.get?_push_size _ rfl, rfl, rfl⟩, fun b hb => ?_, q⟩
    have e : b = s1.heap.objs.size := by simpa using hb
    subst e
    exact I1.fpOk (Nat.le_refl _) (I1.hok.fresh (Nat.le_refl _))
  · obtain ⟨t, rfl⟩ := r1
    cases ha : z.cps.all (· < 128)
    · exact wpAny_pyIter_wide ha (pi_one (tk := s1.toks) I1 _ (turn_str _ z t "str_iterator" (.inr rfl)) ⟨_, Heap.get?_push_size _ rfl, rfl, rfl⟩ q)
    · exact wpAny_pyIter_ascii ha (pi_one (tk := s1.toks) I1 _ (turn_str _ z t "str_ascii_iterator" (.inl rfl)) ⟨_, Heap.get?_push_size _ rfl, rfl, rfl⟩ q)
def chars (z : Str) : List D := z.cps.toList.map fun c => D.str ⟨#[c]⟩
theorem it_str {z : Str} : ItOk e P Z H (Its z) (chars z) where
  go := fun Z' H' i s _ hi => by
    have hi : i < z.cps.size := by simpa [chars] using hi
    exact hi
  yl := fun Z' H' i d x H'' s _ _ hd hy => by
    obtain ⟨rfl, c, hc, rfl⟩ := hy
    refine ⟨Grow.refl _, ?_⟩
    unfold chars at hd
    rw [List.getElem?_map, Array.getElem?_toList, hc] at hd
    cases hd; rfl
  st := fun Z' H' s _ => by
    show z.cps.size ≤ _
    simp [chars]
def seqOf : D → Option (List D)
  | .lst ds => some ds
  | .fz ds => some ds
  | .tup ds => some ds
  | .str z => some (chars z)
  | _ => none
def sSeqE (pv : PV) (G1 : List Sl) : R (List D) := match esc pv G1 with
  | some (d, G2) => (match seqOf d with
    | some ds => .ok ds G2
    | none => .bad)
  | none => .bad
def sSeq (fa : EF) : F (List D) := fun G => (fa G).bind fun pv G1 => match pv with
  | .sl i => (match G1[i]? with
    | some (.bor (.lst ds)) => .ok ds G1
    | _ => sSeqE pv G1)
  | _ => sSeqE pv G1
theorem di_seq {tg : Expr} (hK : X.K = e.K) (he : PE X a (tD e W fa)) : PI X tg a (tI e W (sSeq fa)) := di_of (pi_seq he) fun σ H R h => by
  obtain ⟨P, G, S, h⟩ := h
  refine PostR.bindI S h fun pv G1 v H1 r q => ?_
  obtain ⟨S1, st1, t1⟩ := r.tmp
  have main : PostR e W P σ (Zn P G σ) H (fun ds G1 => ∀ J H1, Sat e P G1 σ H1 → Step (Zn P G σ) H (Zn P G1 σ) H1 → ItOk e P (Zn P G1 σ) H1 J ds → R J H1) (sSeqE pv G1) → (∃ a xs, v = .ref a ∧ SqL X.K H1 a xs ∧ R (Itl X.K a) H1) ∨ (∃ a xs, v = .ref a ∧ SqT X.K H1 a xs ∧ R (Itt X.K a) H1) ∨ ∃ z, v = .str z ∧ R (Its z) H1 := fun q => by
    unfold sSeqE at q
    split at q
    · rename_i d G2 q1
      obtain ⟨S2, st2, r2⟩ := esc_ok S1 t1 q1
      split at q
      · rename_i ds q2
        cases d with
        | lst es =>
          cases q2
          obtain ⟨a, vs, rfl, h1, h2⟩ := rp_fz hK r2 rfl
          exact .inl ⟨a, vs, rfl, h1.sq, q _ H1 S2 (st1.trans st2) (it_list h1 h2)⟩
        | fz es =>
          cases q2
          obtain ⟨a, vs, rfl, h1, h2⟩ := rp_fz hK r2 rfl
          exact .inl ⟨a, vs, rfl, h1.sq, q _ H1 S2 (st1.trans st2) (it_list h1 h2)⟩
        | tup es =>
          cases q2
          obtain ⟨a, vs, rfl, h1, h2⟩ := r2
          rw [← hK] at h1
          exact .inr (.inl ⟨a, vs, rfl, h1.sq, q _ H1 S2 (st1.trans st2) (it_tup h1 h2)⟩)
        | str z =>
          cases q2; cases r2
          exact .inr (.inr ⟨z, rfl, q _ H1 S2 (st1.trans st2) it_str⟩)
        | _ => cases q2
      · exact q.elim
    · exact q.elim
  cases pv with
  | val d => exact main q
  | fr d => exact main q
  | sl i =>
    dsimp only at q
    split at q
    · rename_i ds q1
      obtain ⟨a, h1, h2, h3, vs, h4, h5⟩ := S1.slot _ _ q1
      have t1 : σ[i]? = some (some v) := t1
      rw [h1] at t1; cases t1
      have hH : P.H0 a = some (.lst vs) := by
        cases hh : P.H0 a with
        | none => exact absurd hh (S1.z0 a h2)
        | some o => have := S1.keep a o hh (fun z => h3 (.inl z)); rw [h4] at this; cases this; rfl
      exact .inl ⟨a, vs, rfl, .inl (.inl h4), q _ H1 S1 st1 (it_bor hH (fun z => h3 (.inl z)) (fun z => h3 (.inr z)) h5)⟩
    · exact main q

/-! ### writing an object of a slot -/
/-- a slot's object is written -/
theorem Sat.write (S : Sat e P G σ H) {i : Nat} {s : Sl} {d : D} {a : Addr} {o : HO} (hi : G[i]? = some s) (hs : (∃ d0, s = .own d0) ∨ ∃ d0, s = .lnd d0) (ha : σ[i]? = some (some (.ref a))) (hA : At e (Zn P G σ) (upd H a o) d a) :
    Sat e P (G.set i (putSl d s)) σ (upd H a o) ∧ Step (Zn P G σ) H (Zn P (G.set i (putSl d s)) σ) (upd H a o) := by
  have il : i < G.length := (List.getElem?_eq_some_iff.mp hi).1
  have own_iff : ∀ (j : Nat) (d1 : D), (G.set i (putSl d s))[j]? = some (.own d1) → ∃ d0, G[j]? = some (.own d0) := fun j d1 h => by
    rcases set_get h with ⟨rfl, h1, _⟩ | ⟨_, h1⟩
    · rcases hs with ⟨d0, rfl⟩ | ⟨d0, rfl⟩
      · exact ⟨d0, hi⟩
      · cases h1
    · exact ⟨d1, h1⟩
  have lnd_iff : ∀ (j : Nat) (d1 : D), (G.set i (putSl d s))[j]? = some (.lnd d1) → ∃ d0, G[j]? = some (.lnd d0) := fun j d1 h => by
    rcases set_get h with ⟨rfl, h1, _⟩ | ⟨_, h1⟩
    · rcases hs with ⟨d0, rfl⟩ | ⟨d0, rfl⟩
      · cases h1
      · exact ⟨d0, hi⟩
    · exact ⟨d1, h1⟩
  have hz : ∀ b, Zn P (G.set i (putSl d s)) σ b → Zn P G σ b := fun b z => by
    rcases z with z | ⟨j, d1, h1, h2⟩
    · exact .inl z
    · obtain ⟨d0, h3⟩ := own_iff j d1 h1
      exact .inr ⟨j, d0, h3, h2⟩
  have hsl : ∃ d0, G[i]? = some (.own d0) ∨ G[i]? = some (.lnd d0) := by
    rcases hs with ⟨d0, rfl⟩ | ⟨d0, rfl⟩
    · exact ⟨d0, .inl hi⟩
    · exact ⟨d0, .inr hi⟩
  obtain ⟨d0, hsl⟩ := hsl
  obtain ⟨a', ea, za, _⟩ := S.slotAddr (hsl.elim .inl fun z => .inr (.inl z))
  rw [ha] at ea; cases ea
  have st : Step (Zn P G σ) H (Zn P (G.set i (putSl d s)) σ) (upd H a o) := ⟨fun b u h z => by
    have ne : b ≠ a := fun y => z (y ▸ za)
    exact ⟨by rw [upd_ne ne]; exact h, fun y => z (hz b y)⟩, fun b h => by
    by_cases hb : b = a
    · subst hb; rw [upd_same]; simp
    · rw [upd_ne hb]; exact h⟩
  refine ⟨⟨by simpa using S.len, fun j u h => ?_, fun j k d1 d2 b h1 h2 h3 h4 => ?_, fun j k d1 d2 b h1 h2 h3 h4 => ?_, fun b u h w => ?_, fun b h => st.live b (S.live b h), S.z0, S.wz⟩, st⟩
  · rcases set_get h with ⟨rfl, rfl, _⟩ | ⟨hj, h⟩
    · have hA' : At e (Zn P (G.set i (putSl d s)) σ) (upd H a o) d a := hA.step ((Step.refl _ _).zone hz) rfl
      rcases hs with ⟨d1, rfl⟩ | ⟨d1, rfl⟩
      · obtain ⟨b, h1, h2, h3, _⟩ := S.slot i _ hi
        rw [ha] at h1; cases h1
        exact ⟨a, ha, h2, h3, hA'⟩
      · obtain ⟨b, h1, h2, h3, h4, _⟩ := S.slot i _ hi
        rw [ha] at h1; cases h1
        exact ⟨a, ha, h2, h3, h4, hA'⟩
    · have q := S.slot j u h
      have other : ∀ {d1 : D} {b : Addr}, (G[j]? = some (.own d1) ∨ G[j]? = some (.lnd d1) ∨ G[j]? = some (.bor d1)) → σ[j]? = some (some (.ref b)) → At e (Zn P G σ) H d1 b → At e (Zn P (G.set i (putSl d s)) σ) (upd H a o) d1 b := fun {d1 b} g1 g2 g3 =>
        g3.step st (upd_ne (Ne.symm (S.apart hsl g1 ha g2 hj)))
      cases u with
      | no => trivial
      | imm d1 => obtain ⟨v, h1, h2⟩ := q; exact ⟨v, h1, Rp.step st _ _ h2⟩
      | own d1 => obtain ⟨b, h1, h2, h3, h4⟩ := q; exact ⟨b, h1, h2, h3, other (.inl h) h1 h4⟩
      | lnd d1 => obtain ⟨b, h1, h2, h3, h4, h5⟩ := q; exact ⟨b, h1, h2, h3, h4, other (.inr (.inl h)) h1 h5⟩
      | bor d1 => obtain ⟨b, h1, h2, h3, h4⟩ := q; exact ⟨b, h1, h2, h3, other (.inr (.inr h)) h1 h4⟩
      | exn c ns ds => obtain ⟨b, h1, h2⟩ := q; exact ⟨b, h1, h2.step st⟩
  · obtain ⟨x1, g1⟩ := own_iff _ _ h1
    obtain ⟨x2, g2⟩ := own_iff _ _ h2
    exact S.dist j k x1 x2 b g1 g2 h3 h4
  · obtain ⟨x1, g1⟩ := lnd_iff _ _ h1
    obtain ⟨x2, g2⟩ := lnd_iff _ _ h2
    exact S.par j k x1 x2 b g1 g2 h3 h4
  · have ne : b ≠ a := by
      rintro rfl
      rcases hs with ⟨d1, rfl⟩ | ⟨d1, rfl⟩
      · obtain ⟨b', q1, q2, _⟩ := S.slot i _ hi
        rw [ha] at q1; cases q1
        rw [h] at q2; cases q2
      · obtain ⟨b', q1, _, q2, _⟩ := S.slot i _ hi
        rw [ha] at q1; cases q1
        exact w q2
    rw [upd_ne ne]; exact S.keep b u h w
/-- a slot that may be written, its data -/
def wrD (i : Nat) (G : List Sl) : Option (D × Sl) := match G[i]? with
  | some (.own d) => some (d, .own d)
  | some (.lnd d) => some (d, .lnd d)
  | _ => none
theorem wrD_ok {i : Nat} {d : D} {s : Sl} (S : Sat e P G σ H) (h : wrD i G = some (d, s)) : G[i]? = some s ∧ ((∃ d0, s = .own d0) ∨ ∃ d0, s = .lnd d0) ∧ ∃ a, σ[i]? = some (some (.ref a)) ∧ At e (Zn P G σ) H d a := by
  unfold wrD at h
  split at h <;> cases h
  · rename_i q
    obtain ⟨a, h1, h2, h3⟩ := S.slotAddr (.inl q)
    exact ⟨q, .inl ⟨_, rfl⟩, a, h1, h3⟩
  · rename_i q
    obtain ⟨a, h1, h2, h3⟩ := S.slotAddr (.inr (.inl q))
    exact ⟨q, .inr ⟨_, rfl⟩, a, h1, h3⟩
/-- x.append(a), x a name -/
def cApp (i : Nat) (fa : EF) : EF := fun G => match wrD i G with
  | some (.lst _, _) => (fa G).bind fun pv G1 => (match esc pv G1 with
    | some (d, G2) => (match wrD i G2 with
      | some (.lst ds, s) => if ds.length < 1000000 then .ok (.val .non) (G2.set i (putSl (.lst (ds ++ [d])) s)) else .bad
      | _ => .bad)
    | none => .bad)
  | _ => .bad
theorem step_zone_upd {a : Addr} {o : HO} {ds : List D} {vs : List V} (za : Z a) (r : Rps e Z H ds vs) : Rps e Z (upd H a o) ds vs := Rps.step ⟨fun b u h z => ⟨by rw [upd_ne (fun y : b = a => z (by rw [y]; exact za))]; exact h, z⟩, fun b h => by
    by_cases hb : b = a
    · subst hb; rw [upd_same]; simp
    · rw [upd_ne hb]; exact h⟩ ds vs r
theorem de_append {i : Nat} {x : Str} {xp apos : Pos} (hK : X.K = e.K) (hN : X.N[i]? = some x) (hv : Vis X.env.scope x) (ha : PE X a (tD e W fa))
    (hd : (x == ("__debug__" : Str)) = false := by decide) (hcd : (x == ("__classdict__" : Str)) = false := by decide)
    (hbase : attributeBase (.Name x xp) "append" X.env (eval (.Name x xp) X.env) = eval (.Name x xp) X.env := by rfl)
    (hfew : ((backTo pos (starEach [a] X.env)).all (fun x => !x.1) && (backToKw pos (keywordEach [] X.env)).all (fun x => x.1.isSome) && decide (([a] : List Expr).length + ([] : List Keyword).length + (if ([] : List Keyword).isEmpty then 0 else 1) < 30)) = true := by rfl)
    (hline : (apos.endLine == pos.line) = true := by rfl) (hs : starEach [a] X.env = (false, eval a X.env) :: starEach [] X.env := by rfl) (hplain : (backTo pos (starEach [] X.env)).any (·.1) = false := by rfl) :
    PE X (.Call (.Attribute (.Name x xp) "append" apos) [a] [] pos) (tD e W (cApp i fa)) :=
  (pe_bm PySem.F.plainAttrs_list PySem.F.slot_list_append PySem.F.type_list_append mt_append (pe_var hN hv hd hcd) (pa_cons ha pa_nil hs) hbase hfew hline hs hplain).imp fun σ H Q h => by
    obtain ⟨P, G, S, h⟩ := h
    unfold cApp at h
    split at h
    · rename_i ds0 s0 q0
      obtain ⟨_, _, p, hp, hA⟩ := wrD_ok S q0
      obtain ⟨vs0, h2, _⟩ := hA
      refine ⟨_, hp, .inl ⟨rfl, vs0, SqL.of h2⟩, ?_⟩
      refine tD_at S (Step.refl _ _) (h.bind.mono (fun pv G1 h v H1 r => ?_) fun _ _ s => s)
      obtain ⟨S1, st1, t1⟩ := r.tmp
      split at h
      · rename_i d G2 q1
        obtain ⟨S2, st2, r2⟩ := esc_ok S1 t1 q1
        split at h
        · rename_i ds s q2
          obtain ⟨g2, k2, p', hp', vs, a1, a2⟩ := wrD_ok S2 q2
          rw [hp] at hp'; cases hp'
          split at h
          · rename_i hl
            have za : Zn P G2 σ p := (S2.slotAddr (i := i) (d := .lst ds) (by
              unfold wrD at q2
              split at q2 <;> cases q2
              · exact .inl (by assumption)
              · exact .inr (.inl (by assumption)))).elim fun a z => by
                have e1 := z.1
                rw [hp] at e1; cases e1; exact z.2.1
            have hA : At e (Zn P G2 σ) (upd H1 p (.lst (vs ++ [v]))) (.lst (ds ++ [d])) p := ⟨vs ++ [v], upd_same, step_zone_upd za (a2.append ⟨v, [], rfl, r2, rfl⟩)⟩
            obtain ⟨S3, st3⟩ := S2.write g2 k2 hp hA
            refine ⟨p, vs, v, rfl, rfl, a1, ?_, h _ _ ⟨S3, (st1.trans st2).trans st3, rfl⟩⟩
            rw [a2.length, sizeLine_eq]; omega
          · exact h.elim
        · exact h.elim
      · exact h.elim
    · exact h.elim
/-- x[k] = v, x a name that holds a list -/
def cSetIx (i : Nat) (fk fv : EF) : SF := fun G => (fv G).bind fun pv G1 => match wrD i G1 with
  | some (.lst _, _) => (fk G1).bind fun pk G2 => (match pk with
    | .val (.int k) => (match esc pv G2 with
      | some (d, G3) => (match wrD i G3 with
        | some (.lst ds, s) => (match ixN ds.length k with
          | some j => .ok .nx (G3.set i (putSl (.lst (ds.set j d)) s))
          | none => .bad)
        | _ => .bad)
      | none => .bad)
    | _ => .bad)
  | _ => .bad
theorem wrD_zone {i : Nat} {d : D} {s : Sl} {p : Addr} (S : Sat e P G σ H) (h : wrD i G = some (d, s)) (hp : σ[i]? = some (some (.ref p))) : Zn P G σ p := (S.slotAddr (i := i) (d := d) (by
    unfold wrD at h
    split at h <;> cases h
    · exact .inl (by assumption)
    · exact .inr (.inl (by assumption)))).elim fun a z => by
      have e1 := z.1
      rw [hp] at e1; cases e1; exact z.2.1
theorem PostS.bindD_at {f : EF} {k : PV → List Sl → R Ctl} {D : Ends} {Q : VK} (S : Sat e P G σ H1) (st : Step Z H (Zn P G σ) H1) (h : PostS e W P Z H D ((f G).bind k))
    (hk : ∀ pv G1 v H2, Res e P σ (Zn P G σ) H1 pv G1 v H2 → PostS e W P Z H D (k pv G1) → Q v H2) : tD e W f σ H1 Q := by
  refine ⟨P, G, S, ?_⟩
  cases q : f G with
  | bad => rw [q] at h; exact h.elim
  | ex c ns ds G1 => rw [q] at h; exact fun cls dx H2 S1 st1 r => h cls dx σ H2 S1 (st.trans st1) r
  | ok pv G1 => rw [q] at h; exact fun v H2 r => hk pv G1 v H2 r h
theorem ds_setix {i : Nat} {x : Str} {xp sp : Pos} {fk fv : EF} {idx v : Expr} (hN : X.N[i]? = some x) (hv : Vis X.env.scope x) (hf : PE X v (tD e W fv)) (hk : PE X idx (tD e W fk))
    (hd : (x == ("__debug__" : Str)) = false := by decide) (hcd : (x == ("__classdict__" : Str)) = false := by decide)
    (hx : ∀ v, assign (.Subscript (.Name x xp) idx sp) X.env v = (do
      let ov ← holding [v] (eval (.Name x xp) X.env)
      let iv ← holding [v, ov] (eval idx X.env)
      standAt sp
      holding [v, ov, iv] (setItem ov iv v)
      release [v, ov, iv] []) := by intro _; rfl)
    (hs : swapsWithSole [.Subscript (.Name x xp) idx sp] v pos.line X.env = pure false := by rfl) (hw : swappedStores [.Subscript (.Name x xp) idx sp] v X.env = pure none := by rfl)
    (h1 : (assignEach [.Subscript (.Name x xp) idx sp] X.env).map (·.2) = [assign (.Subscript (.Name x xp) idx sp) X.env] := by rfl) :
    PS X (.Assign [.Subscript (.Name x xp) idx sp] v pos) (tS e W (cSetIx i fk fv)) :=
  (ps_asg hf (pg_sub (pe_var hN hv hd hcd) hk set_list hx) hs hw h1).imp fun D σ H h => by
    obtain ⟨P, G, S, h⟩ := h
    refine PostS.bindD S h fun pv G1 v H1 r q => ?_
    obtain ⟨S1, st1, t1⟩ := r.tmp
    split at q
    · rename_i ds0 s0 q0
      obtain ⟨_, _, p, hp, _⟩ := wrD_ok S1 q0
      refine ⟨_, hp, ?_⟩
      refine PostS.bindD_at S1 st1 q fun pk G2 vk H2 r2 q => ?_
      obtain ⟨S2, st2, _⟩ := r2.tmp
      split at q
      · obtain ⟨_, _, rfl⟩ := r2
        split at q
        · rename_i d G3 q1
          obtain ⟨S3, st3, r3⟩ := esc_ok S2 (t1.step st2) q1
          split at q
          · rename_i ds s q2
            obtain ⟨g2, k2, p', hp', vs, a1, a2⟩ := wrD_ok S3 q2
            rw [hp] at hp'; cases hp'
            split at q
            · rename_i j q3
              have hA : At e (Zn P G3 σ) (upd H2 p (.lst (vs.set j v))) (.lst (ds.set j d)) p := ⟨vs.set j v, upd_same, step_zone_upd (wrD_zone S3 q2 hp) (Rps.set r3 j a2)⟩
              obtain ⟨S4, st4⟩ := S3.write g2 k2 hp hA
              exact ⟨p, vs, _, j, rfl, rfl, a1, by rw [a2.length]; exact q3, q _ _ S4 (((st1.trans st2).trans st3).trans st4)⟩
            · exact q.elim
          · exact q.elim
        · exact q.elim
      · exact q.elim
    · exact q.elim
/-- x.f = v, x a name that holds an object of one of the classes cs -/
def putN (f : Nat) (d : D) : List Nat → List D → List Nat × List D
  | n :: ns, x :: xs => if n = f then (n :: ns, d :: xs) else ((n :: (putN f d ns xs).1), (x :: (putN f d ns xs).2))
  | _, _ => ([f], [d])
def cSetF (cs : List Nat) (i f : Nat) (fv : EF) : SF := fun G => (fv G).bind fun pv G1 => match esc pv G1 with
  | some (d, G2) => (match wrD i G2 with
    | some (.obj c ns ds, s) => if cs.contains c ∧ ns.length < 900 ∧ ns.length = ds.length then .ok .nx (G2.set i (putSl (.obj c (putN f d ns ds).1 (putN f d ns ds).2) s)) else .bad
    | _ => .bad)
  | none => .bad
theorem putN_ok {f : Nat} {d : D} {v : V} (r : Rp e Z H d v) : ∀ {ns : List Nat} {ds : List D} {fs : List (Str × V)}, fs.map (·.1) = ns.map e.nm → Rps e Z H ds (fs.map (·.2)) →
    (putF (e.nm f) v fs).map (·.1) = (putN f d ns ds).1.map e.nm ∧ Rps e Z H (putN f d ns ds).2 ((putF (e.nm f) v fs).map (·.2))
  | [], ds, fs, h1, h2 => by
    cases fs with
    | cons a r => simp at h1
    | nil =>
      cases ds with
      | cons d ds => obtain ⟨_, _, z, _⟩ := h2; simp at z
      | nil => exact ⟨rfl, v, [], rfl, r, rfl⟩
  | n :: ns, ds, [], h1, h2 => by simp at h1
  | n :: ns, [], (x, u) :: fs, h1, h2 => by simp [Rps] at h2
  | n :: ns, d' :: ds, (x, u) :: fs, h1, h2 => by
    simp only [List.map_cons, List.cons.injEq] at h1
    obtain ⟨rfl, h1⟩ := h1
    obtain ⟨u', r', e1, h3, h4⟩ := h2
    simp only [List.map_cons, List.cons.injEq] at e1
    obtain ⟨rfl, rfl⟩ := e1
    by_cases q : n = f
    · subst q
      have e2 : putF (e.nm n) v ((e.nm n, u) :: fs) = (e.nm n, v) :: fs := by simp [putF]
      rw [e2]
      simp only [putN, if_true, List.map_cons]
      exact ⟨by rw [h1], v, _, rfl, r, h4⟩
    · have ne : ¬ (e.nm n = e.nm f) := fun z => q (e.inj _ _ z)
      have e2 : putF (e.nm f) v ((e.nm n, u) :: fs) = (e.nm n, u) :: putF (e.nm f) v fs := by simp [putF, ne]
      rw [e2]
      obtain ⟨i1, i2⟩ := putN_ok r h1 h4
      simp only [putN, if_neg q, List.map_cons]
      exact ⟨by rw [i1], u, _, rfl, h3, i2⟩
end
end PD

/-! PD10: fields stored, defs, raise, try -/
namespace PD
open PySem PySem.Spec L2

section
variable {e : Ev} {W : WX} {P : Pre} {σ : L2.St} {G G1 G2 : List Sl} {H H1 H2 : Hp} {Z Z' : Zo} {X : Cx} {pos : Pos} {a b c : Expr} {fa fb : EF}

theorem ds_setf {cs : List Nat} {i f : Nat} {x n : Str} {xp pos' : Pos} (hK : X.K = e.K) (hx : n = e.nm f) (hc : ∀ c ∈ cs, Cls e.K (e.ga c) ∧ NoAttr e.K (e.ga c) (e.nm f)) (hN : X.N[i]? = some x) (hv : Vis X.env.scope x) (he : PE X a (tD e W fa))
    (hd : (x == ("__debug__" : Str)) = false := by decide) (hcd : (x == ("__classdict__" : Str)) = false := by decide)
    (hs : swapsWith a (some (.Attribute (.Name x xp) n pos')) pos.line X.env = pure false := by rfl) : PS X (.Assign [.Attribute (.Name x xp) n pos'] a pos) (tS e W (cSetF cs i f fa)) :=
  (ps_fld (pe_var hN hv hd hcd) he hs).imp fun D σ H h => by
    subst hx
    obtain ⟨P, G, S, h⟩ := h
    refine PostS.bindD S h fun pv G1 v H1 r q => ?_
    obtain ⟨S1, st1, t1⟩ := r.tmp
    split at q
    · rename_i d G2 q1
      obtain ⟨S2, st2, r2⟩ := esc_ok S1 t1 q1
      split at q
      · rename_i c ns ds s q2
        obtain ⟨g2, k2, p, hp, dx, fs, a1, a2, a3⟩ := wrD_ok S2 q2
        split at q
        · rename_i hcs
          obtain ⟨h1, h2, h3⟩ := hcs
          obtain ⟨c1, c2⟩ := hc c (by simpa using h1)
          have zp := wrD_zone S2 q2 hp
          obtain ⟨b1, b2⟩ := putN_ok r2 a2 a3
          have hA : At e (Zn P G2 σ) (upd H1 p (.ins (e.ga c) dx (putF (e.nm f) v fs))) (.obj c (putN f d ns ds).1 (putN f d ns ds).2) p := ⟨dx, _, upd_same, b1, step_zone_upd zp b2⟩
          obtain ⟨S3, st3⟩ := S2.write g2 k2 hp hA
          have hl : fs.length = ns.length := by have := congrArg List.length a2; simpa using this
          exact ⟨_, hp, p, _, dx, fs, rfl, a1, hK ▸ c1, hK ▸ c2, by omega, q _ _ S3 ((st1.trans st2).trans st3)⟩
        · exact q.elim
      · exact q.elim
    · exact q.elim

/-! ### a def's body keeps its promise -/
def kl : Sl → Sl
  | .lnd d => .lnd d
  | _ => .no
def finF (np : Nat) (r : R Ctl) : R PV := match r with
  | .ok (.ret (.val d)) G => if np ≤ G.length then .ok (.val d) ((G.take np).map kl) else .bad
  | .ok (.ret (.fr d)) G => if np ≤ G.length then .ok (.fr d) ((G.take np).map kl) else .bad
  | .ok .nx G => if np ≤ G.length then .ok (.val .non) ((G.take np).map kl) else .bad
  | .ex c ns ds G => if np ≤ G.length then .ex c ns ds ((G.take np).map kl) else .bad
  | _ => .bad
def mkFn (np nl : Nat) (b : SF) : MF := fun A => finF np (b (A ++ List.replicate nl .no))
theorem Sat.pad {n : Nat} (S : Sat e P G σ H) : Sat e P (G ++ List.replicate n .no) (σ ++ List.replicate n none) H := by
  have old : ∀ {i : Nat} {s : Sl}, (G ++ List.replicate n Sl.no)[i]? = some s → (i < G.length ∧ G[i]? = some s) ∨ s = .no := fun {i s} h => by
    by_cases hi : i < G.length
    · rw [List.getElem?_append_left hi] at h; exact .inl ⟨hi, h⟩
    · rw [List.getElem?_append_right (by omega), List.getElem?_replicate] at h
      split at h
      · cases h; exact .inr rfl
      · cases h
  have sg : ∀ {i : Nat}, i < G.length → (σ ++ List.replicate n none)[i]? = σ[i]? := fun {i} hi => List.getElem?_append_left (S.len ▸ hi)
  have hz : ∀ a, Zn P (G ++ List.replicate n .no) (σ ++ List.replicate n none) a → Zn P G σ a := fun a z => by
    rcases z with z | ⟨i, d, h1, h2⟩
    · exact .inl z
    · rcases old h1 with ⟨hi, h1⟩ | h1
      · rw [sg hi] at h2; exact .inr ⟨i, d, h1, h2⟩
      · cases h1
  refine ⟨by simp [S.len], fun i s h => ?_, fun i j d d' a h1 h2 h3 h4 => ?_, fun i j d d' a h1 h2 h3 h4 => ?_, S.keep, S.live, S.z0, S.wz⟩
  · rcases old h with ⟨hi, h⟩ | rfl
    · have q := (S.slot i s h).zone hz
      cases s <;> simpa only [SlOk, sg hi] using q
    · trivial
  · rcases old h1 with ⟨hi, h1⟩ | z
    · rcases old h2 with ⟨hj, h2⟩ | z
      · rw [sg hi] at h3; rw [sg hj] at h4
        exact S.dist i j d d' a h1 h2 h3 h4
      · cases z
    · cases z
  · rcases old h1 with ⟨hi, h1⟩ | z
    · rcases old h2 with ⟨hj, h2⟩ | z
      · rw [sg hi] at h3; rw [sg hj] at h4
        exact S.par i j d d' a h1 h2 h3 h4
      · cases z
    · cases z
/-- behind the body: the slots that were lent, at the parameters' places -/
theorem Sat.fin {X0 : List Sl} {Y : L2.St} {vs : List V} {np : Nat} (S : Sat e P (G ++ X0) (σ ++ Y) H) (hv : P.pv = vs) (hn : vs.length = np) (hl : G.length = σ.length) (hg : np ≤ G.length) (hX : ∀ (i : Nat) (s : Sl), X0[i]? = some s → ∃ d, s = .own d) :
    Sat e P ((G.take np).map kl ++ X0) (vs.map some ++ Y) H ∧ ∀ a, Zn P ((G.take np).map kl ++ X0) (vs.map some ++ Y) a → Zn P (G ++ X0) (σ ++ Y) a := by
  have lt : ((G.take np).map kl).length = np := by simp; omega
  have lX : X0.length = Y.length := by
    have := S.len
    simp only [List.length_append] at this
    omega
  have old : ∀ {i : Nat} {s : Sl}, ((G.take np).map kl ++ X0)[i]? = some s → (i < np ∧ ((∃ d, s = .lnd d ∧ G[i]? = some (.lnd d)) ∨ s = .no)) ∨ (¬ i < np ∧ X0[i - np]? = some s ∧ (G ++ X0)[G.length + (i - np)]? = some s) := fun {i s} h => by
    by_cases hi : i < np
    · rw [List.getElem?_append_left (by omega), List.getElem?_map, List.getElem?_take_of_lt hi] at h
      refine .inl ⟨hi, ?_⟩
      cases q : G[i]? with
      | none => rw [q] at h; cases h
      | some u =>
        rw [q] at h
        cases u <;> first
          | (cases h; exact .inl ⟨_, rfl, rfl⟩)
          | (cases h; exact .inr rfl)
    · rw [List.getElem?_append_right (by omega), lt] at h
      refine .inr ⟨hi, h, ?_⟩
      rw [List.getElem?_append_right (by omega)]; simpa using h
  have sX : ∀ {i : Nat}, ¬ i < np → (vs.map some ++ Y)[i]? = (σ ++ Y)[G.length + (i - np)]? := fun {i} hi => by
    rw [List.getElem?_append_right (by rw [List.length_map]; omega), List.getElem?_append_right (by omega), List.length_map, hn, hl]
    congr 1; omega
  have hz : ∀ a, Zn P ((G.take np).map kl ++ X0) (vs.map some ++ Y) a → Zn P (G ++ X0) (σ ++ Y) a := fun a z => by
    rcases z with z | ⟨i, d, h1, h2⟩
    · exact .inl z
    · rcases old h1 with ⟨hi, ⟨_, z, _⟩ | z⟩ | ⟨hi, _, h3⟩
      · cases z
      · cases z
      · rw [sX hi] at h2; exact .inr ⟨_, d, h3, h2⟩
  have stz : Step (Zn P (G ++ X0) (σ ++ Y)) H (Zn P ((G.take np).map kl ++ X0) (vs.map some ++ Y)) H := (Step.refl _ _).zone hz
  have lndS : ∀ {i : Nat} {d : D}, i < np → G[i]? = some (.lnd d) → ∃ a, (vs.map some ++ Y)[i]? = some (some (.ref a)) ∧ (σ ++ Y)[i]? = some (some (.ref a)) ∧ P.pv[i]? = some (.ref a) ∧ P.Wr a ∧ P.Z0 a ∧ At e (Zn P (G ++ X0) (σ ++ Y)) H d a := fun {i d} hi h => by
    obtain ⟨a, q1, q2, q3, q4, q5⟩ := S.slot i (.lnd d) (get_append' h)
    refine ⟨a, ?_, q1, q2, q3, q4, q5⟩
    rw [List.getElem?_append_left (by rw [List.length_map]; omega), List.getElem?_map, ← hv, q2]; rfl
  refine ⟨⟨by simp [lX]; omega, fun i s h => ?_, fun i j d d' a h1 h2 h3 h4 => ?_, fun i j d d' a h1 h2 h3 h4 => ?_, S.keep, S.live, S.z0, S.wz⟩, hz⟩
  · rcases old h with ⟨hi, ⟨d, rfl, h'⟩ | rfl⟩ | ⟨hi, h1, h2⟩
    · obtain ⟨a, q0, q1, q2, q3, q4, q5⟩ := lndS hi h'
      exact ⟨a, q0, q2, q3, q4, q5.step stz rfl⟩
    · trivial
    · obtain ⟨d, rfl⟩ := hX _ _ h1
      obtain ⟨a, q1, q2, q3, q4⟩ := S.slot _ _ h2
      exact ⟨a, by rw [sX hi]; exact q1, q2, q3, q4.step stz rfl⟩
  · rcases old h1 with ⟨hi, ⟨_, z, _⟩ | z⟩ | ⟨hi, _, g1⟩
    · cases z
    · cases z
    · rcases old h2 with ⟨hj, ⟨_, z, _⟩ | z⟩ | ⟨hj, _, g2⟩
      · cases z
      · cases z
      · rw [sX hi] at h3; rw [sX hj] at h4
        have := S.dist _ _ d d' a g1 g2 h3 h4
        omega
  · rcases old h1 with ⟨hi, ⟨_, z, g1⟩ | z⟩ | ⟨hi, g1, _⟩
    · cases z
      rcases old h2 with ⟨hj, ⟨_, z, g2⟩ | z⟩ | ⟨hj, g2, _⟩
      · cases z
        obtain ⟨a1, x0, x1, x2, _⟩ := lndS hi g1
        obtain ⟨a2, y0, y1, y2, _⟩ := lndS hj g2
        rw [h3] at x0; cases x0
        rw [h4] at y0; cases y0
        exact S.par i j d d' a (get_append' g1) (get_append' g2) x1 y1
      · cases z
      · obtain ⟨_, z⟩ := hX _ _ g2; cases z
    · cases z
    · obtain ⟨_, z⟩ := hX _ _ g1; cases z
theorem kl_noOwn {A : List Sl} {np : Nat} : noOwn ((A.take np).map kl) = true := by
  unfold noOwn
  rw [List.all_eq_true]
  intro s hs
  obtain ⟨u, _, rfl⟩ := List.mem_map.mp hs
  cases u <;> rfl
/-- from the promise to the body -/
theorem body_of {np nl : Nat} {fb : SF} {vs : List V} {Q : VK} {E : XK} (h : spD e np (mkFn np nl fb) vs H Q E) : tS e (fun cls d _ H => E cls d H) fb { nx := fun _ H' => Q .non H', rt := Q } (vs.map some ++ List.replicate nl none) H := by
  obtain ⟨hn, P, A, h0, hv, no, S, q⟩ := h
  refine ⟨P, A ++ List.replicate nl .no, S.pad, ?_⟩
  have la : A.length = np := by have := S.len; simp at this; omega
  unfold mkFn finF at q
  have st0 : ∀ {A1 : List Sl} {τ : L2.St} {H1 : Hp}, Sat e P A1 τ H1 → (∀ a, Zn P A1 τ a → P.Z0 a ∨ P.H0 a = none) → Step (Zn P A (vs.map some)) H (Zn P A1 τ) H1 := fun {A1 τ H1} S1 hz => by
    refine ⟨fun a o ha z => ⟨S1.keep a o (by rw [h0]; exact ha) fun w => z (.inl (S.wz a w)), fun y => ?_⟩, fun a ha => S1.live a (by rw [h0]; exact ha)⟩
    rcases hz a y with y | y
    · exact z (.inl y)
    · rw [h0, ha] at y; cases y
  have zfin : ∀ {G1 : List Sl} {τ : L2.St} (a : Addr), Zn P ((G1.take np).map kl) τ a → P.Z0 a ∨ P.H0 a = none := fun {G1 τ} a z => .inl (zn_noOwn (noOwn_ok kl_noOwn) a z)
  have fin0 : ∀ {G1 : List Sl} {σ1 : L2.St} {H1 : Hp}, Sat e P G1 σ1 H1 → np ≤ G1.length → Sat e P ((G1.take np).map kl) (vs.map some) H1 ∧ ∀ a, Zn P ((G1.take np).map kl) (vs.map some) a → Zn P G1 σ1 a := fun {G1 σ1 H1} S1 hg => by
    obtain ⟨f1, f2⟩ := Sat.fin (X0 := []) (Y := []) (by simpa using S1) hv hn S1.len hg (fun i s h => by simp at h)
    simp only [List.append_nil] at f1 f2
    exact ⟨f1, f2⟩
  cases hb : fb (A ++ List.replicate nl .no) with
  | bad => rw [hb] at q; exact q.elim
  | ex c ns ds G1 =>
    rw [hb] at q
    simp only at q
    split at q
    case isFalse => exact q.elim
    rename_i hg
    intro cls dx σ1 H1 S1 st1 r
    obtain ⟨f1, f2⟩ := fin0 S1 hg
    exact q cls dx H1 f1 (st0 f1 zfin) (r.zone f2)
  | ok ct G1 =>
    rw [hb] at q
    cases ct with
    | brk => exact q.elim
    | ct => exact q.elim
    | nx =>
      simp only at q
      split at q
      case isFalse => exact q.elim
      rename_i hg
      intro σ1 H1 S1 st1
      obtain ⟨f1, f2⟩ := fin0 S1 hg
      exact q .non H1 ⟨f1, st0 f1 zfin, rfl⟩
    | ret pv =>
      cases pv with
      | sl i => exact q.elim
      | val d =>
        simp only at q
        split at q
        case isFalse => exact q.elim
        rename_i hg
        intro v σ1 H1 S1 r
        obtain ⟨f1, f2⟩ := fin0 S1 hg
        exact q v H1 ⟨f1, st0 f1 zfin, r.zone f2⟩
      | fr d =>
        simp only at q
        split at q
        case isFalse => exact q.elim
        rename_i hg
        intro p σ1 H1 S1
        have hl : G1.length = σ1.length := by have := S1.len; simpa using this
        obtain ⟨f1, f2⟩ := Sat.fin S1 hv hn hl hg (fun i s h => by
          cases i with
          | zero => simp at h; exact ⟨d, h.symm⟩
          | succ i => simp at h)
        refine q _ H1 ⟨p, rfl, f1, st0 f1 fun a z => ?_⟩
        rcases z with z | ⟨i, d', h1, h2⟩
        · exact .inl z
        · by_cases hi : i < ((G1.take np).map kl).length
          · rw [List.getElem?_append_left hi] at h1
            exact absurd h1 (noOwn_ok kl_noOwn i d')
          · obtain ⟨b, q1, q2, _⟩ := f1.slot i _ h1
            rw [h2] at q1; cases q1
            exact .inr q2

/-! ### the context of a body -/
structure Bd (e : Ev) (X : Cx) (W : WX) : Prop where
  hK : X.K = e.K
  tk : Takes X W
  pass : PassesOwn (model X.prog X.w) X.A X.env X.xe
  hu : X.A.units + 64 < cLine
section
variable {Pg : Program} {w : World} {mg : Str → Option Value} {base : Heap} {x qual : Str} {params : Arguments} {body : List Stmt} {scope : Scope} {dvs : List V} {kws : List (Str × V)} {f : Addr} {fd : FuncData} {N ps : List Str} {k nl : Nat} {fb : SF}
/-- A DEF by its body -/
theorem ok_def (F : FunD e.K x qual params body scope dvs kws f fd) (S : FnScope N ps scope) (hN : N.length = ps.length + nl)
    (hb : ∀ (cdv : Value) (A : Around) (outer : List Env) (s : Shared) (H : Hp) (E : XK), Room k (A.deeper (PyProof.Rows.envOfC qual scope s.heap.objs.size f cdv)) →
      Bd e (cxOf (L2.CX Pg w) Pg w e.K mg base N qual scope f cdv A outer s H E) (fun cls d _ H => E cls d H) →
      PSs (cxOf (L2.CX Pg w) Pg w e.K mg base N qual scope f cdv A outer s H E) body (tS e (fun cls d _ H => E cls d H) fb)) :
    FnOk Pg w e.K mg base (L2.CX Pg w) (k + 1) f fd ps (spD e ps.length (mkFn ps.length nl fb)) := by
  refine F.ok S (fun vs H Q E h => h.1) fun cdv A outer s H vs Q E hr h => ?_
  refine ⟨_, hb cdv A outer s H E hr ⟨rfl, takes_of rfl rfl rfl rfl, passes_of rfl, hr.units⟩, ?_⟩
  have hs : L2.start N vs = vs.map some ++ List.replicate nl none := by
    unfold L2.start
    rw [h.1, hN]; simp
  show tS _ _ _ _ (L2.start N vs) H
  rw [hs]
  exact body_of h
end

/-! ### raise X('..') -/
def cRaise (c : Nat) (ns : List Nat) (fs : AF) : SF := fun G => (fs G).bind fun ps G1 => match escs ps G1 with
  | some (ds, G2) => .ex c ns ds G2
  | none => .bad
def cRaise0 (c : Nat) : SF := fun G => .ex c [] [] G
theorem ds_raise0 {c : Nat} {ex : Expr} (hc : X.calm = true) (tk : Takes X W) (he : PMk X ex (fun _ H Q => Q (.ref (e.ga c)) none H)) : PS X (.Raise (some ex) none pos) (tS e W (cRaise0 c)) :=
  (ps_raise hc tk he).imp fun D σ H h => by
    obtain ⟨P, G, S, h⟩ := h
    exact h _ none σ H S (Step.refl _ _) ⟨rfl, .inl ⟨rfl, rfl, rfl⟩⟩
/-- what the text tells of an own exception class without __init__ -/
structure ExcF (e : Ev) (mg : Str → Option Value) (c : Nat) : Prop where
  x : PySem.W.excIn e.K (e.ga c) [.type "ValueError", .type "Exception", .type "BaseException", .type "object"] "ValueError.__new__" = true
  g : mg (e.nm c) = some (.ref (e.ga c))
  k : PySem.W.keepIn e.K (.ref (e.ga c)) = true
  b : PySem.W.subIn e.K (.ref (e.ga c)) (.type "BaseException") = some true
  t : PySem.W.typeIn e.K (.ref (e.ga c)) = some (.type "type")
theorem ds_raiseT {c : Nat} {x m : Str} {j : Nat} {p p2 pos1 : Pos} (B : Bd e X W) (hc : X.calm = true) (F : ExcF e X.mg c) (hx : x = e.nm c) (hg : Gl X x) (hdb : (x == ("__debug__" : Str)) = false := by decide) :
    PS X (.Raise (some (.Call (.Name x p) [.Constant (.str m) j p2] [] pos1)) none pos) (tS e W (cRaise0 c)) := by
  subst hx
  have hK := B.hK
  exact ds_raise0 hc B.tk (pmk_own PySem.F.excBase_ValueError (hK ▸ F.x) F.g (hK ▸ F.k) (raises_own (hK ▸ F.b) (hK ▸ F.t)) hg hdb)

/-! ### try .. except X as n -/
def Ev.at_ (e : Ev) (px : Addr → Value → Option Addr → Prop) : Ev := ⟨e.K, e.nm, e.inj, px⟩
mutual
theorem Rp.at_ {px : Addr → Value → Option Addr → Prop} : ∀ (d : D) (v : V), Rp (e.at_ px) Z H d v ↔ Rp e Z H d v
  | .non, _ => Iff.rfl
  | .bl _, _ => Iff.rfl
  | .int _, _ => Iff.rfl
  | .str _, _ => Iff.rfl
  | .st _, _ => Iff.rfl
  | .ty _, _ => Iff.rfl
  | .lst ds, v => by
    simp only [Rp]
    exact ⟨fun ⟨a, vs, h1, h2, h3⟩ => ⟨a, vs, h1, h2, (Rps.at_ ds vs).mp h3⟩, fun ⟨a, vs, h1, h2, h3⟩ => ⟨a, vs, h1, h2, (Rps.at_ ds vs).mpr h3⟩⟩
  | .tup ds, v => by
    simp only [Rp]
    exact ⟨fun ⟨a, vs, h1, h2, h3⟩ => ⟨a, vs, h1, h2, (Rps.at_ ds vs).mp h3⟩, fun ⟨a, vs, h1, h2, h3⟩ => ⟨a, vs, h1, h2, (Rps.at_ ds vs).mpr h3⟩⟩
  | .fz ds, v => by
    simp only [Rp]
    exact ⟨fun ⟨a, vs, h1, h2, h3⟩ => ⟨a, vs, h1, h2, (Rps.at_ ds vs).mp h3⟩, fun ⟨a, vs, h1, h2, h3⟩ => ⟨a, vs, h1, h2, (Rps.at_ ds vs).mpr h3⟩⟩
  | .dk ks ds, v => by
    simp only [Rp]
    exact ⟨fun ⟨a, vs, h1, h2, h3, h4⟩ => ⟨a, vs, h1, h2, h3, (Rps.at_ ds _).mp h4⟩, fun ⟨a, vs, h1, h2, h3, h4⟩ => ⟨a, vs, h1, h2, h3, (Rps.at_ ds _).mpr h4⟩⟩
  | .dt ks ds, v => by
    simp only [Rp]
    exact ⟨fun ⟨a, vs, h1, h2, h3, h4⟩ => ⟨a, vs, h1, h2, h3, (Rps.at_ ds _).mp h4⟩, fun ⟨a, vs, h1, h2, h3, h4⟩ => ⟨a, vs, h1, h2, h3, (Rps.at_ ds _).mpr h4⟩⟩
  | .obj c ns ds, v => by
    simp only [Rp]
    exact ⟨fun ⟨a, dx, fs, h1, h2, h3, h4, h5⟩ => ⟨a, dx, fs, h1, h2, h3, h4, (Rps.at_ ds _).mp h5⟩, fun ⟨a, dx, fs, h1, h2, h3, h4, h5⟩ => ⟨a, dx, fs, h1, h2, h3, h4, (Rps.at_ ds _).mpr h5⟩⟩
theorem Rps.at_ {px : Addr → Value → Option Addr → Prop} : ∀ (ds : List D) (vs : List V), Rps (e.at_ px) Z H ds vs ↔ Rps e Z H ds vs
  | [], _ => Iff.rfl
  | d :: ds, vs => by
    simp only [Rps]
    exact ⟨fun ⟨v, r, h1, h2, h3⟩ => ⟨v, r, h1, (Rp.at_ d v).mp h2, (Rps.at_ ds r).mp h3⟩, fun ⟨v, r, h1, h2, h3⟩ => ⟨v, r, h1, (Rp.at_ d v).mpr h2, (Rps.at_ ds r).mpr h3⟩⟩
end
theorem At.at_ {px : Addr → Value → Option Addr → Prop} {d : D} {p : Addr} : At (e.at_ px) Z H d p ↔ At e Z H d p := by
  cases d <;> first
    | exact Iff.rfl
    | (simp only [At]; constructor <;> (rintro ⟨vs, h1, h2⟩; exact ⟨vs, h1, by first | exact (Rps.at_ _ _).mp h2 | exact (Rps.at_ _ _).mpr h2⟩))
    | (simp only [At]; constructor <;> (rintro ⟨vs, h1, h2, h3⟩; exact ⟨vs, h1, h2, by first | exact (Rps.at_ _ _).mp h3 | exact (Rps.at_ _ _).mpr h3⟩))
    | (simp only [At]; constructor <;> (rintro ⟨dx, fs, h1, h2, h3⟩; exact ⟨dx, fs, h1, h2, by first | exact (Rps.at_ _ _).mp h3 | exact (Rps.at_ _ _).mpr h3⟩))
def dropX : Sl → Sl
  | .exn _ _ _ => .no
  | s => s
def noX (G : List Sl) : Bool := G.all fun s => match s with
  | .exn _ _ _ => false
  | _ => true
theorem noX_ok {G : List Sl} (h : noX G = true) {i : Nat} {c : Nat} {ns : List Nat} {ds : List D} : G[i]? ≠ some (.exn c ns ds) := fun z => by
  have := List.all_eq_true.mp h _ (List.mem_of_getElem? z)
  cases this
/-- into a suite -/
theorem Sat.toX {px : Addr → Value → Option Addr → Prop} (S : Sat e P G σ H) (h : noX G = true) : Sat (e.at_ px) P G σ H := by
  refine ⟨S.len, fun i s hi => ?_, S.dist, S.par, S.keep, S.live, S.z0, S.wz⟩
  have q := S.slot i s hi
  cases s with
  | no => trivial
  | imm d => obtain ⟨v, h1, h2⟩ := q; exact ⟨v, h1, (Rp.at_ d v).mpr h2⟩
  | own d => obtain ⟨a, h1, h2, h3, h4⟩ := q; exact ⟨a, h1, h2, h3, At.at_.mpr h4⟩
  | lnd d => obtain ⟨a, h1, h2, h3, h4, h5⟩ := q; exact ⟨a, h1, h2, h3, h4, At.at_.mpr h5⟩
  | bor d => obtain ⟨a, h1, h2, h3, h4⟩ := q; exact ⟨a, h1, h2, h3, At.at_.mpr h4⟩
  | exn c ns ds => exact absurd hi (noX_ok h)
theorem Sat.ofX {px : Addr → Value → Option Addr → Prop} (S : Sat (e.at_ px) P G σ H) : Sat e P (G.map dropX) σ H ∧ ∀ a, Zn P (G.map dropX) σ a → Zn P G σ a := by
  have own : ∀ {i : Nat} {d : D}, (G.map dropX)[i]? = some (.own d) → G[i]? = some (.own d) := fun {i d} h => by
    rw [List.getElem?_map] at h
    cases q : G[i]? with
    | none => rw [q] at h; cases h
    | some s => rw [q] at h; cases s <;> first | (cases h; rfl) | cases h
  have lnd : ∀ {i : Nat} {d : D}, (G.map dropX)[i]? = some (.lnd d) → G[i]? = some (.lnd d) := fun {i d} h => by
    rw [List.getElem?_map] at h
    cases q : G[i]? with
    | none => rw [q] at h; cases h
    | some s => rw [q] at h; cases s <;> first | (cases h; rfl) | cases h
  have hz : ∀ a, Zn P (G.map dropX) σ a → Zn P G σ a := fun a z => z.elim .inl fun ⟨i, d, h1, h2⟩ => .inr ⟨i, d, own h1, h2⟩
  refine ⟨⟨by simpa using S.len, fun i s hi => ?_, fun i j d d' a h1 h2 => S.dist i j d d' a (own h1) (own h2), fun i j d d' a h1 h2 => S.par i j d d' a (lnd h1) (lnd h2), S.keep, S.live, S.z0, S.wz⟩, hz⟩
  rw [List.getElem?_map] at hi
  cases q : G[i]? with
  | none => rw [q] at hi; cases hi
  | some u =>
    rw [q] at hi
    have st : Step (Zn P G σ) H (Zn P (G.map dropX) σ) H := (Step.refl _ _).zone hz
    have k := S.slot i u q
    cases u with
    | no => cases hi; trivial
    | imm d => cases hi; obtain ⟨v, h1, h2⟩ := k; exact ⟨v, h1, Rp.step st _ _ ((Rp.at_ d v).mp h2)⟩
    | own d => cases hi; obtain ⟨a, h1, h2, h3, h4⟩ := k; exact ⟨a, h1, h2, h3, (At.at_.mp h4).step st rfl⟩
    | lnd d => cases hi; obtain ⟨a, h1, h2, h3, h4, h5⟩ := k; exact ⟨a, h1, h2, h3, h4, (At.at_.mp h5).step st rfl⟩
    | bor d => cases hi; obtain ⟨a, h1, h2, h3, h4⟩ := k; exact ⟨a, h1, h2, h3, (At.at_.mp h4).step st rfl⟩
    | exn c ns ds => cases hi; trivial
/-- a slot holds the exception -/
theorem Sat.catch {px : Addr → Value → Option Addr → Prop} {i : Nat} {c : Nat} {ns : List Nat} {ds : List D} {p : Addr} {dx : Option Addr} (S : Sat (e.at_ px) P G σ H) (hl : ∀ d, G[i]? ≠ some (.lnd d)) (hi : i < G.length) (hp : px p (.ref (e.ga c)) dx) (r : ExR e (Zn P G σ) H c ns ds (.ref (e.ga c)) dx) :
    Sat (e.at_ px) P (G.set i (.exn c ns ds)) (σ.set i (some (.ref p))) H ∧ ∀ a, Zn P (G.set i (.exn c ns ds)) (σ.set i (some (.ref p))) a → Zn P G σ a := by
  have hz : ∀ a, Zn P (G.set i (.exn c ns ds)) (σ.set i (some (.ref p))) a → Zn P G σ a := fun a z => by
    rcases z with z | ⟨j, d', h1, h2⟩
    · exact .inl z
    · rcases set_get h1 with ⟨_, h, _⟩ | ⟨hj, h1⟩
      · cases h
      · rw [List.getElem?_set_ne hj] at h2
        exact .inr ⟨j, d', h1, h2⟩
  have st : Step (Zn P G σ) H (Zn P (G.set i (.exn c ns ds)) (σ.set i (some (.ref p)))) H := (Step.refl _ _).zone hz
  refine ⟨⟨by simpa using S.len, fun j s h => ?_, fun j k d1 d2 b h1 h2 h3 h4 => ?_, fun j k d1 d2 b h1 h2 h3 h4 => ?_, S.keep, S.live, S.z0, S.wz⟩, hz⟩
  · rcases set_get h with ⟨rfl, rfl, _⟩ | ⟨hj, h⟩
    · refine ⟨p, by rw [List.getElem?_set_self (S.len ▸ hi)], ?_⟩
      obtain ⟨_, ⟨h1, h2, h3⟩ | ⟨d, fs, h1, h2, h3, h4, h5⟩⟩ := r
      · subst h1 h2 h3; exact .inl ⟨rfl, rfl, hp⟩
      · subst h1
        exact .inr ⟨d, fs, hp, st.at_ ⟨h2, h3⟩, h4, (Rps.at_ _ _).mpr (Rps.step st _ _ h5)⟩
    · have q := (S.slot j s h).zone hz
      cases s <;> simpa only [SlOk, List.getElem?_set_ne hj] using q
  · rcases set_get h1 with ⟨_, h, _⟩ | ⟨hj, h1⟩
    · cases h
    · rcases set_get h2 with ⟨_, h, _⟩ | ⟨hk, h2⟩
      · cases h
      · rw [List.getElem?_set_ne hj] at h3
        rw [List.getElem?_set_ne hk] at h4
        exact S.dist j k d1 d2 b h1 h2 h3 h4
  · rcases set_get h1 with ⟨_, h, _⟩ | ⟨hj, h1⟩
    · cases h
    · rcases set_get h2 with ⟨_, h, _⟩ | ⟨hk, h2⟩
      · cases h
      · rw [List.getElem?_set_ne hj] at h3
        rw [List.getElem?_set_ne hk] at h4
        exact S.par j k d1 d2 b h1 h2 h3 h4
/-- a name goes -/
theorem Sat.gone {i : Nat} (S : Sat e P G σ H) : Sat e P (G.set i .no) (σ.set i none) H ∧ ∀ a, Zn P (G.set i .no) (σ.set i none) a → Zn P G σ a := by
  have hz : ∀ a, Zn P (G.set i .no) (σ.set i none) a → Zn P G σ a := fun a z => by
    rcases z with z | ⟨j, d', h1, h2⟩
    · exact .inl z
    · rcases set_get h1 with ⟨_, h, _⟩ | ⟨hj, h1⟩
      · cases h
      · rw [List.getElem?_set_ne hj] at h2
        exact .inr ⟨j, d', h1, h2⟩
  refine ⟨⟨by simpa using S.len, fun j s h => ?_, fun j k d1 d2 b h1 h2 h3 h4 => ?_, fun j k d1 d2 b h1 h2 h3 h4 => ?_, S.keep, S.live, S.z0, S.wz⟩, hz⟩
  · rcases set_get h with ⟨rfl, rfl, _⟩ | ⟨hj, h⟩
    · trivial
    · have q := (S.slot j s h).zone hz
      cases s <;> simpa only [SlOk, List.getElem?_set_ne hj] using q
  · rcases set_get h1 with ⟨_, h, _⟩ | ⟨hj, h1⟩
    · cases h
    · rcases set_get h2 with ⟨_, h, _⟩ | ⟨hk, h2⟩
      · cases h
      · rw [List.getElem?_set_ne hj] at h3
        rw [List.getElem?_set_ne hk] at h4
        exact S.dist j k d1 d2 b h1 h2 h3 h4
  · rcases set_get h1 with ⟨_, h, _⟩ | ⟨hj, h1⟩
    · cases h
    · rcases set_get h2 with ⟨_, h, _⟩ | ⟨hk, h2⟩
      · cases h
      · rw [List.getElem?_set_ne hj] at h3
        rw [List.getElem?_set_ne hk] at h4
        exact S.par j k d1 d2 b h1 h2 h3 h4

def stO (oi : Option Nat) (σ : L2.St) (o : Option V) : L2.St := match oi with
  | some i => σ.set i o
  | none => σ
def clr (oi : Option Nat) (G : List Sl) : List Sl := match oi with
  | some i => G.set i .no
  | none => G
def endX (oi : Option Nat) (r : R Ctl) : R Ctl := match r with
  | .ok .nx G => .ok .nx (clr oi (G.map dropX))
  | .ok .brk G => .ok .brk (clr oi (G.map dropX))
  | .ok .ct G => .ok .ct (clr oi (G.map dropX))
  | .ok (.ret v) G => .ok (.ret v) (G.map dropX)
  | _ => .bad
def opn (oi : Option Nat) (c : Nat) (ns : List Nat) (ds : List D) (G : List Sl) : Option (List Sl) := if noX G then (match oi with
  | some i => match G[i]? with
    | some s => if isLnd s then none else some (G.set i (.exn c ns ds))
    | none => none
  | none => some G) else none
/-- try: fb, except a class with the answers tb [as the slot oi]: fh -/
def cTry1 (tb : List (Nat × Bool)) (oi : Option Nat) (fb fh : SF) : SF := fun G => match fb G with
  | .ex c ns ds G1 => (match tb.lookup c with
    | some true => (match opn oi c ns ds G1 with
      | some G2 => endX oi (fh G2)
      | none => .bad)
    | some false => .ex c ns ds G1
    | none => .bad)
  | r => r
/-- the answers are right -/
def TbOk (e : Ev) (C : Value) (tb : List (Nat × Bool)) : Prop := ∀ r ∈ tb, PySem.W.exmOne e.K (.ref (e.ga r.1)) C = some r.2
theorem lookup_mem {α : Type} {l : List (Nat × α)} {c : Nat} {b : α} (h : l.lookup c = some b) : (c, b) ∈ l := by
  induction l with
  | nil => cases h
  | cons r l ih =>
    obtain ⟨x, y⟩ := r
    simp only [List.lookup] at h
    split at h
    · rename_i q
      cases h
      have : c = x := by simpa using q
      subst this
      exact List.mem_cons_self
    · exact List.mem_cons_of_mem _ (ih h)
/-- the held exception of a suite -/
def pxOf (p : Addr) (cls : Value) (dx : Option Addr) : Addr → Value → Option Addr → Prop := fun a c d => a = p ∧ c = cls ∧ d = dx
theorem suite_end {oi : Option Nat} {D : Ends} {px : Addr → Value → Option Addr → Prop} {Z0 : Zo} {H0 : Hp} {Dn : Ends} {r : R Ctl} (q : PostS e W P Z0 H0 Dn (endX oi r))
    (hnx : ∀ σ1 H1, Dn.nx (stO oi σ1 none) H1 → D.nx σ1 H1) (hbk : ∀ σ1 H1, Dn.bk (stO oi σ1 none) H1 → D.bk σ1 H1) (hct : ∀ σ1 H1, Dn.ct (stO oi σ1 none) H1 → D.ct σ1 H1) (hrt : ∀ v H1, Dn.rt v H1 → D.rt v H1)
    : PostS (e.at_ px) (fun _ _ _ _ => False) P Z0 H0 D r := by
  have fin : ∀ {G : List Sl} {σ1 : L2.St} {H1 : Hp}, Sat (e.at_ px) P G σ1 H1 → Step Z0 H0 (Zn P G σ1) H1 → Sat e P (clr oi (G.map dropX)) (stO oi σ1 none) H1 ∧ Step Z0 H0 (Zn P (clr oi (G.map dropX)) (stO oi σ1 none)) H1 := fun {G σ1 H1} S1 st1 => by
    obtain ⟨S2, z2⟩ := S1.ofX
    cases oi with
    | none => exact ⟨S2, st1.zone z2⟩
    | some i =>
      obtain ⟨S3, z3⟩ := S2.gone (i := i)
      exact ⟨S3, st1.zone fun a y => z2 a (z3 a y)⟩
  cases r with
  | bad => exact q.elim
  | ex c ns ds G1 => exact q.elim
  | ok c G1 =>
    cases c with
    | nx => exact fun σ1 H1 S1 st1 => hnx _ _ (q _ H1 (fin S1 st1).1 (fin S1 st1).2)
    | brk => exact fun σ1 H1 S1 st1 => hbk _ _ (q _ H1 (fin S1 st1).1 (fin S1 st1).2)
    | ct => exact fun σ1 H1 S1 st1 => hct _ _ (q _ H1 (fin S1 st1).1 (fin S1 st1).2)
    | ret v =>
      cases v with
      | sl i => exact q.elim
      | val d =>
        intro v σ1 H1 S1 r
        obtain ⟨S2, z2⟩ := S1.ofX
        exact hrt _ _ (q v σ1 H1 S2 (((Rp.at_ _ _).mp r).zone z2))
      | fr d =>
        intro p σ1 H1 S1
        obtain ⟨S2, z2⟩ := S1.ofX
        rw [List.map_append] at S2
        exact hrt _ _ (q p σ1 H1 S2)
theorem suite_start {oi : Option Nat} {c : Nat} {ns : List Nat} {ds : List D} {p : Addr} {dx : Option Addr} (S : Sat e P G σ H) (r : ExR e (Zn P G σ) H c ns ds (.ref (e.ga c)) dx) (h : opn oi c ns ds G = some G2) :
    Sat (e.at_ (pxOf p (.ref (e.ga c)) dx)) P G2 (stO oi σ (some (.ref p))) H ∧ ∀ a, Zn P G2 (stO oi σ (some (.ref p))) a → Zn P G σ a := by
  unfold opn at h
  split at h
  · rename_i nx
    have S' := S.toX (px := pxOf p (.ref (e.ga c)) dx) nx
    split at h
    · rename_i i
      split at h
      · rename_i s q
        split at h
        · cases h
        · rename_i nl
          cases h
          exact S'.catch (fun d z => by rw [q] at z; cases z; exact nl rfl) (List.getElem?_eq_some_iff.mp q).1 ⟨rfl, rfl, rfl⟩ r
      · cases h
    · cases h; exact ⟨S', fun _ z => z⟩
  · cases h
/-- what a suite runs in -/
structure Bh (e : Ev) (X : Cx) : Prop where
  hK : X.K = e.K
  px : ∀ a cls dx, e.px a cls dx → ∃ o, (a, o) ∈ X.pn ∧ o.cls = cls ∧ o.dict = dx ∧ ∃ vs, o.data = .fields vs
  hu : X.A.units + 64 < cLine
section
variable {x n : Str} {C : Value} {i : Nat} {body suite : List Stmt} {b₀ : Stmt} {np pos' : Pos} {tb : List (Nat × Bool)} {fb fh : SF}
theorem ds_try_as (B : Bd e X W) (hs : X.stack = X.env :: X.outer) (hf : X.env.frame = some X.env.locals) (hN : X.N.Nodup) (hi : X.N[i]? = some n) (hln : X.env.kindOf n = some .local) (hc : Names X x C) (ht : TbOk e C tb)
    (hb : ∀ (W' : WX) (pn : List (Addr × Obj)) (xe : Value → Shared → Prop), Bd e (X.tr pn xe) W' → PSs (X.tr pn xe) body (tS e W' fb))
    (hsu : ∀ (p : Addr) (oe : Obj) (cls : Value) (dx : Option Addr) (pn : List (Addr × Obj)), Zc cls dx oe → (∃ vs, oe.data = .fields vs) → Bh (e.at_ (pxOf p cls dx)) (X.suite p ((p, oe) :: pn)) → PSs (X.suite p ((p, oe) :: pn)) (b₀ :: suite) (tS (e.at_ (pxOf p cls dx)) (fun _ _ _ _ => False) fh)) :
    PS X (.Try body [.ExceptHandler (some (.Name x np)) (some n) (b₀ :: suite) pos'] [] [] pos) (tS e W (cTry1 tb (some i) fb fh)) := by
  refine (ps_try_as (tb := fun W' => tS e W' fb) hs hf hN hi hln hc B.tk (fun W' pn xe tk pa => hb W' pn xe ⟨B.hK, tk, pa, B.hu⟩) (fun p oe cls dx pn hz hf => hsu p oe cls dx pn hz hf ⟨B.hK, fun a c d ⟨h1, h2, h3⟩ => ⟨oe, by rw [h1]; exact List.mem_cons_self, h2 ▸ hz.1, h3 ▸ hz.2, hf⟩, B.hu⟩)).imp fun Dn σ H h => ?_
  obtain ⟨P, G, S, h⟩ := h
  refine ⟨P, G, S, ?_⟩
  unfold cTry1 at h
  cases q : fb G with
  | bad => rw [q] at h; exact h.elim
  | ok c G1 =>
    rw [q] at h
    cases c with
    | nx => exact h
    | brk => exact h
    | ct => exact h
    | ret v => cases v <;> exact h
  | ex c ns ds G1 =>
    rw [q] at h
    intro cls dx σ1 H1 S1 st1 r
    obtain ⟨rfl, r'⟩ := id r
    simp only at h
    cases ql : tb.lookup c with
    | none => rw [ql] at h; exact h.elim
    | some b =>
      rw [ql] at h
      have hm : PySem.W.exmOne X.K (.ref (e.ga c)) C = some b := by rw [B.hK]; exact ht _ (lookup_mem ql)
      refine ⟨b, hm, fun hb p hp => ?_, fun hb => ?_⟩
      · subst hb
        simp only at h
        split at h
        · rename_i G2 q2
          obtain ⟨S2, z2⟩ := suite_start (p := p) S1 r q2
          have se := suite_end (px := pxOf p (.ref (e.ga c)) dx) (D := { nx := fun σ' H' => Dn.nx (σ'.set i none) H', rt := Dn.rt, bk := fun σ' H' => Dn.bk (σ'.set i none) H', ct := fun σ' H' => Dn.ct (σ'.set i none) H' }) h (fun _ _ z => z) (fun _ _ z => z) (fun _ _ z => z) fun _ _ z => z
          exact ⟨P, G2, S2, se.start (st1.zone z2)⟩
        · exact h.elim
      · subst hb
        exact h _ dx σ1 H1 S1 st1 r
theorem ds_try_only (B : Bd e X W) (hs : X.stack = X.env :: X.outer) (hf : X.env.frame = some X.env.locals) (hc : Names X x C) (ht : TbOk e C tb)
    (hb : ∀ (W' : WX) (pn : List (Addr × Obj)) (xe : Value → Shared → Prop), Bd e (X.tr pn xe) W' → PSs (X.tr pn xe) body (tS e W' fb))
    (hsu : ∀ (p : Addr) (oe : Obj) (cls : Value) (dx : Option Addr) (pn : List (Addr × Obj)), Zc cls dx oe → (∃ vs, oe.data = .fields vs) → Bh (e.at_ (pxOf p cls dx)) (X.suite p ((p, oe) :: pn)) → PSs (X.suite p ((p, oe) :: pn)) (b₀ :: suite) (tS (e.at_ (pxOf p cls dx)) (fun _ _ _ _ => False) fh)) :
    PS X (.Try body [.ExceptHandler (some (.Name x np)) none (b₀ :: suite) pos'] [] [] pos) (tS e W (cTry1 tb none fb fh)) := by
  refine (ps_try_only (tb := fun W' => tS e W' fb) hs hf hc B.tk (fun W' pn xe tk pa => hb W' pn xe ⟨B.hK, tk, pa, B.hu⟩) (fun p oe cls dx pn hz hf => hsu p oe cls dx pn hz hf ⟨B.hK, fun a c d ⟨h1, h2, h3⟩ => ⟨oe, by rw [h1]; exact List.mem_cons_self, h2 ▸ hz.1, h3 ▸ hz.2, hf⟩, B.hu⟩)).imp fun Dn σ H h => ?_
  obtain ⟨P, G, S, h⟩ := h
  refine ⟨P, G, S, ?_⟩
  unfold cTry1 at h
  cases q : fb G with
  | bad => rw [q] at h; exact h.elim
  | ok c G1 =>
    rw [q] at h
    cases c with
    | nx => exact h
    | brk => exact h
    | ct => exact h
    | ret v => cases v <;> exact h
  | ex c ns ds G1 =>
    rw [q] at h
    intro cls dx σ1 H1 S1 st1 r
    obtain ⟨rfl, r'⟩ := id r
    simp only at h
    cases ql : tb.lookup c with
    | none => rw [ql] at h; exact h.elim
    | some b =>
      rw [ql] at h
      have hm : PySem.W.exmOne X.K (.ref (e.ga c)) C = some b := by rw [B.hK]; exact ht _ (lookup_mem ql)
      refine ⟨b, hm, fun hb p hp => ?_, fun hb => ?_⟩
      · subst hb
        simp only at h
        split at h
        · rename_i G2 q2
          obtain ⟨S2, z2⟩ := suite_start (p := p) S1 r q2
          exact ⟨P, G2, S2, (suite_end h (fun _ _ z => z) (fun _ _ z => z) (fun _ _ z => z) fun _ _ z => z).start (st1.zone z2)⟩
        · exact h.elim
      · subst hb
        exact h _ dx σ1 H1 S1 st1 r
end
end
end PD

/-! PD11: where an exception is handled -/
namespace PD
open PySem PySem.Spec PySem.SeqAt L2 L2H

section
variable {e : Ev} {W : WX} {P : Pre} {σ : L2.St} {G G1 G2 : List Sl} {H H1 H2 : Hp} {Z Z' : Zo} {X : Cx} {pos : Pos} {a b c : Expr} {fa fb : EF}

/-! ### isinstance(x, ..), x a name that holds the exception -/
def kIsE (tb : List (Ty × Ty × Bool)) (c : Nat) (d : D) : Option Bool := match d with
  | .tup cs => (match clDs cs with
    | some us => isiAny tb (.c c) us
    | none => none)
  | d => (match clD d with
    | some u => isi1 tb (.c c) u
    | none => none)
def cIsE (tb : List (Ty × Ty × Bool)) (cs : List Nat) (i : Nat) (fc : EF) : EF := fun G => match G[i]? with
  | some (.exn c _ _) => if cs.contains c then (fc G).bind fun pv G1 => (match pv with
    | .val d => (match G1[i]? with
      | some (.exn c' _ _) => if c' = c then (match kIsE tb c d with
        | some b => .ok (.val (.bl b)) G1
        | none => .bad) else .bad
      | _ => .bad)
    | _ => .bad) else .bad
  | _ => .bad
def rIsX (X : Cx) (e : Ev) (tb : List (Ty × Ty × Bool)) (cs : List Nat) : List V → Hp → VK → Prop := fun xs H Q => ∃ Z p v c ns ds d b, xs = [.ref p, v] ∧ c ∈ cs ∧ ExnOk e Z H c ns ds p ∧ Rp e Z H d v ∧ kIsE tb c d = some b ∧ Q (.bl b) H
theorem bIsX {tb : List (Ty × Ty × Bool)} {cs : List Nat} (B : Bh e X) (T : IsiOk e tb []) (hc : ∀ c ∈ cs, ExcC e.K (e.ga c)) : CallR X (.builtin "isinstance") (rIsX X e tb cs) := by
  intro pins s σ H xs us Q I r h
  obtain ⟨Z, p, v, c, ns, ds, d, b, rfl, hm, hx, rd, hk, q⟩ := h
  obtain ⟨u1, u2, rfl, x1, x2⟩ := vals2 r
  cases (show u1 = Value.ref p from x1)
  have C := hc c hm
  rw [← B.hK] at C
  have hpx : ∃ dx od, e.px p (.ref (e.ga c)) dx ∧ (match dx with | none => od = none | some q => ∃ o, od = some o ∧ s.heap.get? q = some o) := by
    rcases hx with ⟨_, _, hx⟩ | ⟨dx, fs, hx, ⟨_, h2⟩, _, _⟩
    · exact ⟨none, none, hx, rfl⟩
    · have ho : ObjOk X.prog X.w H s.heap dx (.xd fs) := I.hok dx _ h2
      obtain ⟨mA, ⟨o, _, _, h3, _⟩, _⟩ := ho
      exact ⟨some dx, some o, hx, o, rfl, h3⟩
  obtain ⟨dx, od, hx', hod⟩ := hpx
  obtain ⟨o, ho, oc, odd, vs, ov⟩ := B.px p _ _ hx'
  have hget := (I.pin (p, o) (List.mem_append.mpr (.inl ho))).1
  have J : PySem.W.InstAt s.heap p o (e.ga c) od := by
    obtain ⟨o1, o2, o3, o4⟩ := o
    dsimp only at oc odd ov
    subst oc odd ov
    refine ⟨hget, rfl, rfl, ?_⟩
    cases o2 with
    | none => cases hod; trivial
    | some q => obtain ⟨o, rfl, h3⟩ := hod; exact h3
  obtain ⟨cdD, hcD, _⟩ := PySem.W.any_some C.hd
  have KX := PySem.W.kitx_exc (x := p) (ox := o) (od := od) (by rw [hcD]; rfl) C.hg C.hk C.hs C.ha C.hn C.ht C.hm
  have fin : ∀ tk, EP X pins σ Q (.bool b) { s with toks := tk } := fun tk => ⟨.bl b, H, I.kept (t' := tk) fun _ _ z => z, rfl, q⟩
  unfold kIsE at hk
  split at hk
  · rename_i cs'
    split at hk
    · rename_i ts q1
      obtain ⟨t, vs, rfl, h1, h2⟩ := rd
      have kb : PySem.W.kitAny X.K (.ref (e.ga c)) (ts.map (Ty.v e)) = some b := by rw [B.hK]; exact isiAny_ok (t := .c c) T hk
      have kc := clDs_ok h2 q1
      cases (show u2 = Value.ref t from x2)
      rcases h1 with ⟨_, h1 | ⟨ob, h1⟩⟩ | ⟨⟨oc, od, dt, osl⟩, its, n, h3, h4, h5, h6, h7⟩
      · obtain ⟨_, its, rv, o, g1, g2, n, g3⟩ := (show ObjOk X.prog X.w H s.heap t (.tup vs) from I.hok t _ h1)
        have e3 := ClsV.all kc rv
        subst e3
        obtain ⟨oc, od, dt, sl⟩ := o
        simp only at g2 g3
        subst g2 g3
        exact PySem.W.kia_tup KX I.kIn J g1 kb (fun z => nomatch z) fin
      · obtain ⟨_, _, its, rv, o, g1, g2, n, g3⟩ := (show ObjOk X.prog X.w H s.heap t (.frz ob (.tup vs)) from I.hok t _ h1)
        have e3 := ClsV.all kc rv
        subst e3
        obtain ⟨oc, od, dt, sl⟩ := o
        simp only at g2 g3
        subst g2 g3
        exact PySem.W.kia_tup KX I.kIn J g1 kb (fun z => nomatch z) fin
      · simp only at h4 h5
        subst h4 h5
        have e3 := ClsV.all kc h7
        have hl : s.heap.get? t = some ⟨.type "tuple", od, .seq (ts.map (Ty.v e)).toArray n, osl⟩ := I.kIn _ _ (by rw [B.hK, h3, ← e3, Array.toArray_toList])
        exact PySem.W.kia_tup KX I.kIn J hl kb (fun z => nomatch z) fin
    · cases hk
  · split at hk
    · rename_i t q1
      have kb : PySem.W.kitOne X.K (.ref (e.ga c)) (t.v e) = some b := by rw [B.hK]; exact isi1_ok (t := .c c) T hk
      have e2 := (clD_ok (.inl rd) q1).eq x2
      subst e2
      exact PySem.W.kia_one KX I.kIn J kb (fun z => nomatch z) fin
    · cases hk
theorem de_isE {tb : List (Ty × Ty × Bool)} {cs : List Nat} {i : Nat} {x : Str} {p xp : Pos} {fc : EF} (B : Bh e X) (T : IsiOk e tb []) (hc : ∀ c ∈ cs, ExcC e.K (e.ga c)) (hg : Gl X "isinstance") (hm : X.mg "isinstance" = none) (hN : X.N[i]? = some x) (hv : Vis X.env.scope x) (hf : PE X c (tD e W fc))
    (hd : (x == ("__debug__" : Str)) = false := by decide) (hcd : (x == ("__classdict__" : Str)) = false := by decide)
    (hs : starEach [.Name x xp, c] X.env = (false, eval (.Name x xp) X.env) :: starEach [c] X.env := by rfl) (hs2 : starEach [c] X.env = (false, eval c X.env) :: starEach [] X.env := by rfl) (hpl : (backTo pos (starEach [c] X.env)).any (·.1) = false := by rfl) :
    PE X (.Call (.Name "isinstance" p) [.Name x xp, c] [] pos) (tD e W (cIsE tb cs i fc)) :=
  (pe_callB (bIsX B T hc) hg hm (by decide +kernel) (pa_cons (pe_var hN hv hd hcd) (pa_cons hf pa_nil hs2) hs) (by decide) (by decide) hs hpl).imp fun σ H Q h => by
    obtain ⟨P, G, S, h⟩ := h
    unfold cIsE at h
    split at h
    · rename_i c ns ds q0
      split at h
      · rename_i hcs
        obtain ⟨p, h1, h2⟩ := S.slot _ _ q0
        refine ⟨_, h1, tD_at S (Step.refl _ _) (h.bind.mono (fun pv G1 q v H1 r => ?_) fun _ _ s => s)⟩
        split at q
        · rename_i d
          obtain ⟨S1, st1, rp⟩ := r
          split at q
          · rename_i c' ns' ds' q1
            split at q
            · rename_i ec
              subst ec
              split at q
              · rename_i b qb
                obtain ⟨p', h3, h4⟩ := S1.slot _ _ q1
                rw [h1] at h3; cases h3
                exact ⟨_, p, v, c', ns', ds', d, b, rfl, by simpa using hcs, h4, rp, qb, q _ H1 ⟨S1, st1, rfl⟩⟩
              · exact q.elim
            · exact q.elim
          · exact q.elim
        · exact q.elim
      · exact h.elim
    · exact h.elim

/-! ### a def that is called there -/
structure FnHp (Pg : Program) (w : World) (K : PySem.W.Frag) (mg : Str → Option Value) (base : Heap) (CX : CXT) (k : Nat) (f : Addr) (fd : FuncData) (ps : List Str) (sp : Sp) (p : Addr × Obj) : Prop where
  len : ∀ vs H Q E, sp vs H Q E → vs.length = ps.length
  run : ∀ (A : Around) (outer : List Env) (s : Shared) (H : Hp) (args : Args) (us : List Value) (vs : List V) (Q : VK) (E : XK), RoomH k A → PinOk outer H s p → Env0 Pg w K mg base A outer s H → BindsTo s fd args (ps.zip us) → Vals vs us → sp vs H Q E →
    codeAny (model Pg w) A (.call (.ref f) args) (CR CX outer Pg w H s Q E) s
theorem clbH_of {k : Nat} {f : Addr} {fd : FuncData} {ps : List Str} {sp : Sp} {p : Addr × Obj} (F : FnHp X.prog X.w X.K X.mg X.base (L2.CX X.prog X.w) k f fd ps sp p) (hr : RoomH k X.A) (hp : p ∈ X.pn) (hb : Binds X.K fd ps []) (tk : Takes X W) : Clb X W f sp := by
  intro pins s σ H vs us Q I r h
  have hl : us.length = ps.length := by rw [← r.length]; exact F.len _ _ _ _ h
  have b := hb s us I.kIn (by rw [List.append_nil]; exact hl)
  rw [List.append_nil] at b
  have P1 := I.pin p (List.mem_append_left _ hp)
  have hpin : PinOk X.stack H s p := ⟨P1.1, P1.2.1, fun hm => (List.mem_cons.mp (I.stkSub p.1 hm)).elim P1.2.2.1 P1.2.2.2.1, P1.2.2.2.2⟩
  refine wpAny_call (codeAny_mono (F.run X.A X.stack s H ⟨us, []⟩ us vs Q (WE W σ) hr hpin I.env0 b r h) fun r s' hq => ?_)
  cases r with
  | error e => exact passAt tk σ pins H s e s' I hq
  | ok fl =>
    cases fl with
    | ret u => exact I.after hq
    | next => exact hq.elim
    | brk => exact hq.elim
    | cont => exact hq.elim
def noEx {α : Type} : R α → R α
  | .ex _ _ _ _ => .bad
  | r => r
def mkFnH (np nl : Nat) (b : SF) : MF := mkFn np nl fun G => noEx (b G)
theorem body_ofH {np nl : Nat} {fb : SF} {vs : List V} {Q : VK} {E : XK} (h : spD e np (mkFnH np nl fb) vs H Q E) : tS e (fun _ _ _ _ => False) fb { nx := fun _ H' => Q .non H', rt := Q } (vs.map some ++ List.replicate nl none) H := by
  obtain ⟨P, G, S, q⟩ := body_of h
  refine ⟨P, G, S, ?_⟩
  dsimp only at q
  cases hb : fb G with
  | bad => rw [hb] at q; exact q
  | ex c ns ds G1 => rw [hb] at q; exact q.elim
  | ok c G1 =>
    rw [hb] at q
    cases c with
    | nx => exact q
    | brk => exact q
    | ct => exact q
    | ret v => cases v <;> exact q
section
variable {Pg : Program} {w : World} {mg : Str → Option Value} {base : Heap} {x qual : Str} {params : Arguments} {body : List Stmt} {scope : Scope} {dvs : List V} {kws : List (Str × V)} {f : Addr} {fd : FuncData} {N ps : List Str} {k nl : Nat} {fb : SF}
theorem ok_defH {p : Addr × Obj} (F : FunD e.K x qual params body scope dvs kws f fd) (S : FnScope N ps scope) (hN : N.length = ps.length + nl) (hpx : ∀ a cls dx, e.px a cls dx → a = p.1 ∧ p.2.cls = cls ∧ p.2.dict = dx ∧ ∃ vs, p.2.data = .fields vs)
    (hb : ∀ (cdv : Value) (A : Around) (outer : List Env) (s : Shared) (H : Hp) (E : XK), RoomH k (A.deeper (PyProof.Rows.envOfC qual scope s.heap.objs.size f cdv)) →
      Bh e (cxH (L2.CX Pg w) Pg w e.K mg base N qual scope f cdv A outer s H E p) →
      PSs (cxH (L2.CX Pg w) Pg w e.K mg base N qual scope f cdv A outer s H E p) body (tS e (fun _ _ _ _ => False) fb)) :
    FnHp Pg w e.K mg base (L2.CX Pg w) (k + 1) f fd ps (spD e ps.length (mkFnH ps.length nl fb)) p := by
  obtain ⟨oc, od, dV, kV, doc, pm, an, cdv, ct, osl, rfl, lk, hcd, _, _⟩ := F.ex
  refine ⟨fun vs H Q E h => h.1, fun A outer s H args us vs Q E hr hpin e0 hbd r hsp => ?_⟩
  have KX : e.K.In s.heap := e0.mod.kin.keeps fun b o h => (e0.bs b o h).1
  have lim : s.heap.NoLimit := e0.mod.nolimit.keeps fun b o h => (e0.bs b o h).1
  have hkind : ∀ y ∈ ps.zip us, scope.names.lookup y.1 = some .local ∨ (scope.names.lookup y.1 = some .cell ∧ ((cellsFrom (s.heap.objs.size + 1) scope.names []).lookup y.1).isSome = true) := fun ⟨n, v⟩ hy => by
    rcases S.par n (List.of_mem_zip hy).1 with q | q
    · exact .inl q
    · exact .inr ⟨q, PySem.W.cellsFrom_some _ _ _ (.inl q)⟩
  refine codeAny_call_function hr.depth (KX _ _ lk) rfl S.co S.gen rfl (PySem.W.codeRec_of KX hcd) (hbd _ _ _ _ ?_)
  refine wpAny_newFunctionEnv_cells S.kind hkind fun env he s1 x => ?_
  subst he
  refine ⟨lim.keeps x.toInCall.keep, codeAny_func ?_⟩
  have hb' := hb cdv A outer s H E (hr.deeper _) ⟨rfl, (fun a c d h => by
    obtain ⟨h1, h2, h3, h4⟩ := hpx a c d h
    exact ⟨p.2, by rw [h1]; exact List.mem_singleton.mpr rfl, h2, h3, h4⟩), by have := (hr.deeper (PyProof.Rows.envOfC qual scope s.heap.objs.size f cdv)).un; show (A.deeper (PyProof.Rows.envOfC qual scope s.heap.objs.size f cdv)).units + 64 < cLine; omega⟩
  have hl : vs.length = ps.length := hsp.1
  have hs : L2.start N vs = vs.map some ++ List.replicate nl none := by
    unfold L2.start
    rw [hl, hN]; simp
  have q := body_ofH hsp
  rw [← hs] at q
  have I := inv_startH (CX := L2.CX Pg w) (E := E) S hpin e0 hl r x
  refine wpAny_mono (hb'.run [] s1 _ H _ I q) (fun fl s' hs => ?_) fun e' s' hs => hs
  cases fl with
  | ret u => obtain ⟨v, σ', H', J, rv, q⟩ := hs; exact ⟨v, H', J.os, J.bare, J.base, J.hok, rv, q⟩
  | next => obtain ⟨σ', H', J, q⟩ := hs; exact ⟨V.non, H', J.os, J.bare, J.base, J.hok, rfl, q⟩
  | brk => obtain ⟨_, _, _, q⟩ := hs; exact q.elim
  | cont => obtain ⟨_, _, _, q⟩ := hs; exact q.elim
end
end
end PD

/-! PD12: short words for the printed derivations; the text's facts -/
namespace PD
open PySem PySem.Spec L2 L2H

section
variable {e : Ev} {W : WX} {P : Pre} {σ : L2.St} {G G1 G2 : List Sl} {H H1 H2 : Hp} {Z Z' : Zo} {X : Cx} {pos : Pos} {a b c : Expr} {fa fb fc : EF}
/-! ### names of the module -/
theorem de_gint {x : Str} {i : Int} (hm : ∃ t, X.mg x = some (.int i t)) (hg : Gl X x := by rfl) (hd : (x == ("__debug__" : Str)) = false := by decide) : PE X (.Name x pos) (tD e W (cC (.int i))) := by
  obtain ⟨t, hm⟩ := hm
  exact de_glob (v := .int i) hg hm ⟨t, rfl⟩ (fun _ _ => rfl) hd
theorem de_gstr {x z : Str} (hm : ∃ t, X.mg x = some (.str z t)) (hg : Gl X x := by rfl) (hd : (x == ("__debug__" : Str)) = false := by decide) : PE X (.Name x pos) (tD e W (cC (.str z))) := by
  obtain ⟨t, hm⟩ := hm
  exact de_glob (v := .str z) hg hm ⟨t, rfl⟩ (fun _ _ => rfl) hd
theorem de_gref {x : Str} {n : Nat} (hm : X.mg x = some (.ref (e.ga n))) (hg : Gl X x := by rfl) (hd : (x == ("__debug__" : Str)) = false := by decide) : PE X (.Name x pos) (tD e W (cC (.st n))) :=
  de_glob (v := .ref (e.ga n)) hg hm rfl (fun _ _ => rfl) hd
theorem de_gty {x : Str} {n : String} (hm : X.mg x = none) (hv : bootBuiltins x = some (.type n) := by decide +kernel) (hg : Gl X x := by rfl) (hn : x ≠ "__name__" := by decide) (hd : (x == ("__debug__" : Str)) = false := by decide) : PE X (.Name x pos) (tD e W (cC (.ty n))) :=
  (pe_bltn (v := .ty n) hg hm hv rfl hn hd).imp fun _ _ _ => tD_c fun _ _ => rfl
/-! ### - a -/
def cNeg (fa : EF) : EF := fun G => (fa G).bind fun pv G1 => match pv with
  | .val (.int i) => .ok (.val (.int (-i))) G1
  | _ => .bad
theorem de_neg (ha : PE X a (tD e W fa)) : PE X (.UnaryOp .USub a pos) (tD e W (cNeg fa)) := (pe_un un_neg ha).imp fun σ H Q h => tD_then h fun P G Z0 H0 H pv v r q => by
  split at q
  · obtain ⟨S, st, rfl⟩ := r
    exact ⟨_, rfl, q _ H ⟨S, st, rfl⟩⟩
  · exact q.elim
/-! ### a < b < c -/
def cChain (k k' : D → D → Option PV) (fa fb fc : EF) : EF := fun G => (fa G).bind fun a G1 => (fb G1).bind fun b G2 => (fin2 k a b G2).bind fun r G3 => match r with
  | .val (.bl true) => (fc G3).bind fun c G4 => fin2 k' b c G4
  | .val (.bl false) => .ok (.val (.bl false)) G3
  | _ => .bad
theorem tD_chain {k k' : D → D → Option PV} {Q : VK} (h : tD e W (cChain k k' fa fb fc) σ H Q) : tChain (rK2 e k) (rK2 e k') (tD e W fa) (tD e W fb) (tD e W fc) σ H Q := by
  refine tD_two h fun P G Z0 H0 H a b v u S ta tb st q => ?_
  refine fin2_ok S ta tb (Z0 := Z0) (H0 := H0) (q.bind.mono (fun r G3 q w H3 rr => ?_) fun _ _ s => s)
  obtain ⟨S3, st3, _⟩ := rr.tmp
  split at q
  · obtain ⟨_, _, rfl⟩ := rr
    refine ⟨true, rfl, iteT ?_⟩
    refine tD_at S3 (st.trans st3) (q.bind.mono (fun cv G4 q w H4 r4 => ?_) fun _ _ s => s)
    obtain ⟨S4, st4, t4⟩ := r4.tmp
    exact fin2_ok S4 ((tb.step st3).step st4) t4 (q.mono (fun _ _ k w H5 r5 => k w H5 (r5.from_ ((st.trans st3).trans st4))) fun _ _ s => s)
  · obtain ⟨_, _, rfl⟩ := rr
    exact ⟨false, rfl, iteF (q _ H3 ⟨S3, st.trans st3, rfl⟩)⟩
  · exact q.elim
theorem de_chain {op op' : CmpOp} {k k' : D → D → Option PV} (ho : OpR X (compareOp op) (rK2 e k)) (ho' : OpR X (compareOp op') (rK2 e k')) (ha : PE X a (tD e W fa)) (hb : PE X b (tD e W fb)) (hc : PE X c (tD e W fc)) (hm : lastMarks [op, op'] [b, c] = false := by with_unfolding_all rfl) :
    PE X (.Compare a [op, op'] [b, c] pos) (tD e W (cChain k k' fa fb fc)) := (pe_chain ho ho' ha hb hc hm).imp fun _ _ _ => tD_chain
theorem dt_chain {op op' : CmpOp} {k k' : D → D → Option PV} (ho : OpR X (compareOp op) (rK2 e k)) (ho' : OpR X (compareOp op') (rK2 e k')) (ha : PE X a (tD e W fa)) (hb : PE X b (tD e W fb)) (hc : PE X c (tD e W fc)) (hm : lastMarks [op, op'] [b, c] = false := by with_unfolding_all rfl) :
    PT X (.Compare a [op, op'] [b, c] pos) (tT e W (cTB (cChain k k' fa fb fc))) := by
  refine (pt_chain ho ho' ha hb hc hm).imp fun σ H Q h => ?_
  show tChain (rK2 e k) (rK2 e k') (tD e W fa) (tD e W fb) (tD e W fc) σ H _
  obtain ⟨P, G, S, h⟩ := h
  refine tD_chain ⟨P, G, S, h.bind.mono (fun pv G1 h v H1 r => ?_) fun _ _ s => s⟩
  split at h
  · obtain ⟨S1, st1, rfl⟩ := r
    exact ⟨_, rfl, h H1 S1 st1⟩
  · exact h.elim
/-! ### calls -/
def Q_ (Pg : Program) (w : World) (e : Ev) (mg : Str → Option Value) (base : Heap) (k : Nat) (f : Addr) (ps : List Str) (n : Nat) (m : MF) : Prop := ∃ fd, FnOk Pg w e.K mg base (L2.CX Pg w) k f fd ps (spD e n m) ∧ Binds e.K fd ps [] ∧ PySem.W.keepIn e.K (.ref f) = true
theorem clb {f : Addr} {k n : Nat} {ps : List Str} {m : MF} (B : Bd e X W) (q : Q_ X.prog X.w e X.mg X.base k f ps n m) (hr : Room k X.A) : Clb X W f (spD e n m) := by
  obtain ⟨fd, F, b, _⟩ := q
  have hK := B.hK
  exact clb_of (hK ▸ F) hr (hK ▸ b) B.tk
theorem Q_.kp {Pg : Program} {w : World} {mg : Str → Option Value} {base : Heap} {f : Addr} {k n : Nat} {ps : List Str} {m : MF} (q : Q_ Pg w e mg base k f ps n m) : PySem.W.keepIn e.K (.ref f) = true := q.choose_spec.2.2
theorem clbMk {C f : Addr} {k n : Nat} {ps : List Str} {m : MF} (B : Bd e X W) (M : Mk e.K C f) (q : Q_ X.prog X.w e X.mg X.base k f ps n m) (hr : Room (k + 1) X.A) : ClbMk X W C (spD e n m) := by
  obtain ⟨fd, F, b, _⟩ := q
  have hK := B.hK
  exact clbMk_of (hK ▸ M) (hK ▸ F) hr (hK ▸ b) B.tk
def QH_ (Pg : Program) (w : World) (e : Ev) (mg : Str → Option Value) (base : Heap) (k : Nat) (f : Addr) (ps : List Str) (n : Nat) (m : MF) (p : Addr × Obj) : Prop := ∃ fd, FnHp Pg w e.K mg base (L2.CX Pg w) k f fd ps (spD e n m) p ∧ Binds e.K fd ps [] ∧ PySem.W.keepIn e.K (.ref f) = true
theorem QH_.kp {Pg : Program} {w : World} {mg : Str → Option Value} {base : Heap} {f : Addr} {k n : Nat} {ps : List Str} {m : MF} {p : Addr × Obj} (q : QH_ Pg w e mg base k f ps n m p) : PySem.W.keepIn e.K (.ref f) = true := q.choose_spec.2.2
theorem clbH {f : Addr} {k n : Nat} {ps : List Str} {m : MF} {p : Addr × Obj} (B : Bh e X) (q : QH_ X.prog X.w e X.mg X.base k f ps n m p) (hr : RoomH k X.A) (hp : p ∈ X.pn) : Clb X (fun _ _ _ _ => False) f (spD e n m) := by
  obtain ⟨fd, F, b, _⟩ := q
  have hK := B.hK
  exact clbH_of (hK ▸ F) hr hp (hK ▸ b) takes0
theorem q_mk {Pg : Program} {w : World} {mg : Str → Option Value} {base : Heap} {x qual : Str} {params : Arguments} {body : List Stmt} {scope : Scope} {f : Addr} {fd : FuncData} {k : Nat} {ps : List Str} {n : Nat} {m : MF} (F : FunD e.K x qual params body scope [] [] f fd) (hn : ps.length = n)
    (h : FnOk Pg w e.K mg base (L2.CX Pg w) k f fd ps (spD e ps.length m))
    (hb : ∀ (kV doc pm : Value) (an : Option Addr) (cdv ct : Value) (us : List Value), us.length = ps.length → bindArgs (PySem.W.fnOf x qual params body scope .none kV doc pm an cdv ct) ⟨us, []⟩ = pure (ps.zip us)) : Q_ Pg w e mg base k f ps n m :=
  ⟨fd, hn ▸ h, F.bindsN hb, F.kp⟩
theorem qH_mk {Pg : Program} {w : World} {mg : Str → Option Value} {base : Heap} {x qual : Str} {params : Arguments} {body : List Stmt} {scope : Scope} {f : Addr} {fd : FuncData} {k : Nat} {ps : List Str} {n : Nat} {m : MF} {p : Addr × Obj} (F : FunD e.K x qual params body scope [] [] f fd) (hn : ps.length = n)
    (h : FnHp Pg w e.K mg base (L2.CX Pg w) k f fd ps (spD e ps.length m) p)
    (hb : ∀ (kV doc pm : Value) (an : Option Addr) (cdv ct : Value) (us : List Value), us.length = ps.length → bindArgs (PySem.W.fnOf x qual params body scope .none kV doc pm an cdv ct) ⟨us, []⟩ = pure (ps.zip us)) : QH_ Pg w e mg base k f ps n m p :=
  ⟨fd, hn ▸ h, F.bindsN hb, F.kp⟩
/-- a level that is not reached -/
theorem q_zero {Pg : Program} {w : World} {mg : Str → Option Value} {base : Heap} {x qual : Str} {params : Arguments} {body : List Stmt} {scope : Scope} {f : Addr} {fd : FuncData} {ps : List Str} {n : Nat} (F : FunD e.K x qual params body scope [] [] f fd) (hn : ps.length = n)
    (hb : ∀ (kV doc pm : Value) (an : Option Addr) (cdv ct : Value) (us : List Value), us.length = ps.length → bindArgs (PySem.W.fnOf x qual params body scope .none kV doc pm an cdv ct) ⟨us, []⟩ = pure (ps.zip us)) : Q_ Pg w e mg base 0 f ps n (fun _ => .bad) :=
  q_mk F hn ⟨fun vs H Q E h => h.1, fun A outer s H args us vs Q E _ _ _ _ h => by
    obtain ⟨_, _, _, _, _, _, _, q⟩ := h
    exact q.elim⟩ hb
end

/-! ### the facts of the text -/
inductive Fx where
  | fa (f : He.Fa)
  | isi (tb : List (Ty × Ty × Bool)) (cs : List Nat)
  | exms (c : Nat) (tb : List (Nat × Bool))
  | isC (c : Nat)
  | fnd (c : Nat) (x : Str) (n : String)
  | exC (c : Nat)
  | tup (x : Str) (vs : List He.Dv)
  | pr (p : (Nat → Str) → PySem.W.Frag → Bool)
def eqV (a b : Option (Option Value)) : Bool := decide (a = b)
def isCB (nm : Nat → Str) (K : PySem.W.Frag) (c : Nat) : Bool := eqV (PySem.W.findIn K (.ref (He.ga K (nm c))) "__class__") (some (some (.builtin "object.__class__"))) && (eqV (PySem.W.specialIn K (.builtin "object.__class__") "__get__") (some (some (.builtin "getset_descriptor.__get__"))) &&
  (decide (PySem.W.takesIn K (.builtin "object.__class__") = some true) && decide (PySem.W.mroIn K (He.ga K (nm c)) (.type "object") = some true)))
def exCB (nm : Nat → Str) (K : PySem.W.Frag) (c : Nat) : Bool := eqV (PySem.W.findIn K (.ref (He.ga K (nm c))) "__getattribute__") (some (some (.builtin "BaseException.__getattribute__"))) && (eqV (PySem.W.findIn K (.ref (He.ga K (nm c))) "__getattr__") (some none) &&
  (decide (PySem.W.subIn K (.ref (He.ga K (nm c))) (.type "BaseException") = some true) && (PySem.W.hasDictIn K (He.ga K (nm c)) && isCB nm K c)))
def tyV' (nm : Nat → Str) (K : PySem.W.Frag) : Ty → Value
  | .b n => .type n
  | .c n => .ref (He.ga K (nm n))
def Fx.ok (nm : Nat → Str) (K : PySem.W.Frag) : Fx → Bool
  | .fa f => f.ok K
  | .isi tb cs => (tb.all fun r => decide (PySem.W.kitOne K (tyV' nm K r.1) (tyV' nm K r.2.1) = some r.2.2)) && cs.all fun c => isCB nm K c && (He.Fa.cls (nm c)).ok K
  | .exms c tb => tb.all fun r => decide (PySem.W.exmOne K (.ref (He.ga K (nm r.1))) (.ref (He.ga K (nm c))) = some r.2)
  | .isC c => isCB nm K c
  | .fnd c x n => eqV (PySem.W.findIn K (.ref (He.ga K (nm c))) x) (some (some (.builtin n)))
  | .exC c => exCB nm K c
  | .tup x vs => He.tupB K x vs
  | .pr p => p nm K
/-- the closed names of a def; where their cells stand is not told -/
def frees (sc : Scope) : List (Str × Addr) := sc.names.filterMap fun y => match y.2 with
  | .free => some (y.1, 0)
  | _ => none
def erC : He.FnW → He.FnW
  | some (n, q, p, b, s, g, c, bl) => some (n, q, p, b, s, g, c.map fun y => (y.1, 0), bl)
  | none => none
def vaX (d : He5.DefA) : He.FnW := some (d.name, d.qual, d.params, .stmts d.body, d.scope, mainGlobals, frees d.scope, builtinsNs)
def valX (fn : List He5.DefA) : He.AlD := (true, fn.map vaX)
def obsX (nm : Nat → Str) (fx : List Fx) (fn : List He5.DefA) (K : PySem.W.Frag) : He.AlD := ((fx.all fun f => f.ok nm K) && fn.all fun d => d.ok K, fn.map fun d => erC (He5.fnA K (d.at_ K)))
def SaysX (nm : Nat → Str) (fx : List Fx) (fn : List He5.DefA) (K : PySem.W.Frag) : Prop := obsX nm fx fn K = valX fn
def obsXG (n : Nat) (nm : Nat → Str) (fx : List Fx) (fn : List He5.DefA) (g : Addr → Option Obj) : He.AlD := obsX nm fx fn (He.frG g (He5.asA g n))
def hookX (n : Nat) (nm : Nat → Str) (fx : List Fx) (fn : List He5.DefA) : PySem.W.Hook where
  α := He.AlD
  obs := fun s => obsXG n nm fx fn s.heap.get?
  val := fun _ => valX fn
  says := fun _ h => ∃ K : PySem.W.Frag, K.In h ∧ SaysX nm fx fn K
  of := fun _ _ e => ⟨_, He.frG_in, e⟩
  keeps := fun _ _ _ ⟨K, hK, c⟩ k => ⟨K, PySem.W.Frag.In.keeps hK k, c⟩
theorem obsXG_eq {n : Nat} {nm : Nat → Str} {fx : List Fx} {fn : List He5.DefA} {g : Addr → Option Obj} {s : Shared} (h : ∀ a, g a = s.heap.get? a) : obsXG n nm fx fn g = (hookX n nm fx fn).obs s := by
  have e : g = s.heap.get? := funext h
  rw [e] <;> rfl
section
variable {nm : Nat → Str} {fx : List Fx} {fn : List He5.DefA} {K : PySem.W.Frag}
theorem SaysX.fact (c : SaysX nm fx fn K) (i : Nat) {f : Fx} (h : fx[i]? = some f := by rfl) : f.ok nm K = true := by
  have c1 := (He.ba (show ((fx.all fun f => f.ok nm K) && fn.all fun d => d.ok K) = true from congrArg (fun z : He.AlD => z.1) c)).1
  exact List.all_eq_true.mp c1 f (List.mem_of_getElem? h)
theorem SaysX.er (c : SaysX nm fx fn K) (i : Nat) {d : He5.DefA} (h : fn[i]? = some d) : erC (He5.fnA K (d.at_ K)) = vaX d ∧ d.ok K = true := by
  have c2 := (He.ba (show ((fx.all fun f => f.ok nm K) && fn.all fun d => d.ok K) = true from congrArg (fun z : He.AlD => z.1) c)).2
  have e : fn.map (fun d => erC (He5.fnA K (d.at_ K))) = fn.map vaX := congrArg (fun z : He.AlD => z.2) c
  have e2 : (fn.map fun d => erC (He5.fnA K (d.at_ K)))[i]? = (fn.map vaX)[i]? := by rw [e]
  rw [List.getElem?_map, List.getElem?_map, h] at e2
  exact ⟨Option.some.inj e2, List.all_eq_true.mp c2 d (List.mem_of_getElem? h)⟩
theorem SaysX.def_ (c : SaysX nm fx fn K) (i : Nat) {d : He5.DefA} (h : fn[i]? = some d := by rfl) (hf : frees d.scope = [] := by rfl) : ∃ fd, FunD K d.name d.qual d.params d.body d.scope (d.dvs K) (d.kws K) (d.at_ K) fd := by
  obtain ⟨e, o⟩ := c.er i h
  refine He5.DefA.funD ?_ o
  unfold vaX at e
  rw [hf] at e
  cases q : He5.fnA K (d.at_ K) with
  | none => rw [q] at e; cases e
  | some t =>
    obtain ⟨n, q1, p, b, s, g, cl, bl⟩ := t
    rw [q] at e
    have e2 : (n, q1, p, b, s, g, cl.map (fun y => (y.1, (0 : Addr))), bl) = (d.name, d.qual, d.params, FuncBody.stmts d.body, d.scope, mainGlobals, [], builtinsNs) := Option.some.inj e
    simp only [Prod.mk.injEq, List.map_eq_nil_iff] at e2
    obtain ⟨h1, h2, h3, h4, h5, h6, h7, h8⟩ := e2
    unfold He5.DefA.val
    rw [h1, h2, h3, h4, h5, h6, h7, h8]
/-- a def that closes over its class -/
theorem SaysX.defC (c : SaysX nm fx fn K) (i : Nat) {d : He5.DefA} (h : fn[i]? = some d := by rfl) (hf : frees d.scope = [(("__class__" : Str), 0)] := by rfl) : ∃ (oc : Value) (od : Option Addr) (dV kV doc pm : Value) (an : Option Addr) (cdv ct : Value) (cc : Addr) (osl : Array (Option Value)),
    K.lookup (d.at_ K) = some ⟨oc, od, .func (PySem.W.ksFn d.name d.qual d.params d.body d.scope dV kV doc pm an cdv ct cc), osl⟩ ∧ PySem.W.codeIn K cdv d.qual = true ∧ He.dflB K dV (d.dvs K) = true ∧ PySem.W.keepIn K (.ref (d.at_ K)) = true := by
  obtain ⟨e, o⟩ := c.er i h
  unfold vaX at e
  rw [hf] at e
  obtain ⟨kp, c2⟩ := He.ba o
  unfold He5.fnA at e
  split at e
  · rename_i oc od fd osl q
    rw [q] at c2
    obtain ⟨n1, n2, n3, n4, n5, n6, n7, n8, n9, n10, n11, n12, n13, n14, n15⟩ := fd
    have e2 : (n1, n2, n3, n4, n5, n6, n7.map (fun y => (y.1, (0 : Addr))), n15) = (d.name, d.qual, d.params, FuncBody.stmts d.body, d.scope, mainGlobals, [(("__class__" : Str), 0)], builtinsNs) := Option.some.inj e
    simp only [Prod.mk.injEq] at e2
    obtain ⟨h1, h2, h3, h4, h5, h6, h7, h8⟩ := e2
    subst h1 h2 h3 h4 h5 h6 h8
    cases n7 with
    | nil => cases h7
    | cons y r =>
      cases r with
      | cons _ _ => simp at h7
      | nil =>
        simp only [List.map_cons, List.map_nil, List.cons.injEq, Prod.mk.injEq, and_true] at h7
        obtain ⟨y1, y2⟩ := y
        simp only at h7
        subst h7
        have c3 : (PySem.W.codeIn K n13 d.qual && (He.dflB K n8 (d.dvs K) && He.kwdB K n9 (d.kws K))) = true := c2
        obtain ⟨k1, k2⟩ := He.ba c3
        obtain ⟨k3, k4⟩ := He.ba k2
        exact ⟨oc, od, n8, n9, n10, n11, n12, n13, n14, y2, osl, q, k1, k3, kp⟩
  · cases e
end
/-- what a derivation leans on -/
structure Tx (fx : List Fx) (fn : List He5.DefA) (e : Ev) (mg : Str → Option Value) : Prop where
  h : ∃ hp : Heap, e.K.In hp ∧ hp.Ns mainGlobals mg
  c : SaysX e.nm fx fn e.K
section
variable {fx : List Fx} {fn : List He5.DefA} {e : Ev} {mg : Str → Option Value}
theorem Tx.at_ (T : Tx fx fn e mg) (px : Addr → Value → Option Addr → Prop) : Tx fx fn (e.at_ px) mg := ⟨T.h, T.c⟩
theorem Tx.glo (T : Tx fx fn e mg) (i : Nat) {x : Str} (h : fx[i]? = some (.fa (.glo x)) := by rfl) : mg x = some (.ref (He.ga e.K x)) := by
  obtain ⟨hp, X, G⟩ := T.h
  exact He.glo_ok X G (T.c.fact i h)
theorem Tx.free (T : Tx fx fn e mg) (i : Nat) {x : Str} (h : fx[i]? = some (.fa (.free x)) := by rfl) : mg x = none := by
  obtain ⟨hp, X, G⟩ := T.h
  exact He.free_ok X G (T.c.fact i h)
theorem Tx.int (T : Tx fx fn e mg) (i : Nat) {x : Str} {z : Int} (h : fx[i]? = some (.fa (.int x z)) := by rfl) : ∃ t, mg x = some (.int z t) := by
  obtain ⟨hp, X, G⟩ := T.h
  exact He.int_ok X G (T.c.fact i h)
theorem Tx.str (T : Tx fx fn e mg) (i : Nat) {x z : Str} (h : fx[i]? = some (.fa (.str x z)) := by rfl) : ∃ t, mg x = some (.str z t) := by
  obtain ⟨hp, X, G⟩ := T.h
  exact He.str_ok X G (T.c.fact i h)
theorem Tx.cls (T : Tx fx fn e mg) (i : Nat) {x : Str} (h : fx[i]? = some (.fa (.cls x)) := by rfl) : Cls e.K (He.ga e.K x) := He.cls_ok (T.c.fact i h)
theorem Tx.noat (T : Tx fx fn e mg) (i : Nat) {x f : Str} (h : fx[i]? = some (.fa (.noat x f)) := by rfl) : NoAttr e.K (He.ga e.K x) f := He.noat_ok (T.c.fact i h)
theorem Tx.meth (T : Tx fx fn e mg) (i : Nat) {x m : Str} (h : fx[i]? = some (.fa (.meth x m)) := by rfl) : Meth e.K (He.ga e.K x) m (He.ma e.K (He.ga e.K x) m) := He.meth_ok (T.c.fact i h)
theorem Tx.mkr (T : Tx fx fn e mg) (i : Nat) {x : Str} (h : fx[i]? = some (.fa (.mkr x)) := by rfl) : Mk e.K (He.ga e.K x) (He.ma e.K (He.ga e.K x) "__init__") := He.mkr_ok (T.c.fact i h)
theorem Tx.keep (T : Tx fx fn e mg) (i : Nat) {x : Str} (h : fx[i]? = some (.fa (.keep x)) := by rfl) : PySem.W.keepIn e.K (.ref (He.ga e.K x)) = true := He.keep_ok (T.c.fact i h)
theorem Tx.pr (T : Tx fx fn e mg) (i : Nat) {p : (Nat → Str) → PySem.W.Frag → Bool} (h : fx[i]? = some (.pr p) := by rfl) : p e.nm e.K = true := T.c.fact i h
theorem Tx.exm (T : Tx fx fn e mg) (i : Nat) {x y : Str} {b : Bool} (h : fx[i]? = some (.fa (.exm x y b)) := by rfl) : PySem.W.exmOne e.K (.ref (He.ga e.K x)) (.ref (He.ga e.K y)) = some b := He.exm_ok (T.c.fact i h)
theorem Tx.exc (T : Tx fx fn e mg) (i j : Nat) {c : Nat} {x : Str} (hx : x = e.nm c) (h : fx[i]? = some (.fa (.exc x)) := by rfl) (h2 : fx[j]? = some (.fa (.glo x)) := by rfl) : ExcF e mg c := by
  subst hx
  obtain ⟨h1, h2', h3, h4⟩ := He.exc_ok (T.c.fact i h)
  exact ⟨h1, T.glo j h2, h2', h3, h4⟩
theorem tyV_eq (t : Ty) : tyV' e.nm e.K t = t.v e := by cases t <;> rfl
theorem isC_ok {c : Nat} (h : isCB e.nm e.K c = true) (h2 : (He.Fa.cls (e.nm c)).ok e.K = true) : IsC e c := by
  obtain ⟨h1, h⟩ := He.ba h
  obtain ⟨h3, h⟩ := He.ba h
  obtain ⟨h4, h5⟩ := He.ba h
  exact ⟨He.cls_ok h2, of_decide_eq_true h1, of_decide_eq_true h3, of_decide_eq_true h4, of_decide_eq_true h5⟩
theorem Tx.isi (T : Tx fx fn e mg) (i : Nat) {tb : List (Ty × Ty × Bool)} {cs : List Nat} (h : fx[i]? = some (.isi tb cs) := by rfl) : IsiOk e tb cs := by
  obtain ⟨h1, h2⟩ := He.ba (T.c.fact i h)
  refine ⟨fun r hr => ?_, fun c hc => ?_⟩
  · have := of_decide_eq_true (List.all_eq_true.mp h1 r hr)
    rwa [tyV_eq, tyV_eq] at this
  · obtain ⟨h3, h4⟩ := He.ba (List.all_eq_true.mp h2 c hc)
    exact isC_ok h3 h4
theorem Tx.isi0 (T : Tx fx fn e mg) (i : Nat) {tb : List (Ty × Ty × Bool)} {cs : List Nat} (h : fx[i]? = some (.isi tb cs) := by rfl) : IsiOk e tb [] := ⟨(T.isi i h).one, fun _ h => by cases h⟩
theorem Tx.tb (T : Tx fx fn e mg) (i : Nat) {c : Nat} {tb : List (Nat × Bool)} (h : fx[i]? = some (.exms c tb) := by rfl) : TbOk e (.ref (e.ga c)) tb := fun r hr => of_decide_eq_true (List.all_eq_true.mp (T.c.fact i h) r hr)
theorem Tx.isc (T : Tx fx fn e mg) (i j : Nat) {c : Nat} (h : fx[i]? = some (.isC c) := by rfl) (h2 : fx[j]? = some (.fa (.cls (e.nm c))) := by rfl) : IsC e c := isC_ok (T.c.fact i h) (T.c.fact j h2)
theorem Tx.fnd (T : Tx fx fn e mg) (i : Nat) {c : Nat} {x : Str} {n : String} (h : fx[i]? = some (.fnd c x n) := by rfl) : PySem.W.findIn e.K (.ref (e.ga c)) x = some (some (.builtin n)) := of_decide_eq_true (T.c.fact i h)
theorem Tx.exC (T : Tx fx fn e mg) (i : Nat) {c : Nat} (h : fx[i]? = some (.exC c) := by rfl) : ExcC e.K (e.ga c) := by
  obtain ⟨h1, h⟩ := He.ba (show exCB e.nm e.K c = true from T.c.fact i h)
  obtain ⟨h3, h⟩ := He.ba h
  obtain ⟨h4, h⟩ := He.ba h
  obtain ⟨h5, h⟩ := He.ba h
  obtain ⟨h6, h⟩ := He.ba h
  obtain ⟨h7, h⟩ := He.ba h
  obtain ⟨h8, h9⟩ := He.ba h
  exact ⟨of_decide_eq_true h1, of_decide_eq_true h3, of_decide_eq_true h4, h5, of_decide_eq_true h6, of_decide_eq_true h7, of_decide_eq_true h8, of_decide_eq_true h9⟩
theorem tup_rp {x : Str} {vs : List He.Dv} {ds : List D} (h : He.tupB e.K x vs = true) (hd : ∀ Z H, Rps e Z H ds (vs.map (He.Dv.v e.K))) : ∀ Z H, Rp e Z H (.tup ds) (.ref (He.ga e.K x)) := fun Z H => by
  refine ⟨_, _, rfl, ?_, hd Z H⟩
  rcases He.tupB_ok h (fun _ => none) with (h | ⟨o, h⟩) | h
  · cases h
  · cases h
  · exact .inr h
end
end PD

/-! PD12b: small things for the printed derivations -/
namespace PD
open PySem PySem.Spec L2 L2H
theorem all1 {p : Nat → Prop} {a1 : Nat} (h1 : p a1) : ∀ c ∈ [a1], p c := by
  intro c h
  simp only [List.mem_cons, List.not_mem_nil, or_false] at h
  subst h; exact h1
theorem all2 {p : Nat → Prop} {a1 a2 : Nat} (h1 : p a1) (h2 : p a2) : ∀ c ∈ [a1, a2], p c := by
  intro c h
  simp only [List.mem_cons, List.not_mem_nil, or_false] at h
  rcases h with rfl | rfl <;> assumption
theorem all3 {p : Nat → Prop} {a1 a2 a3 : Nat} (h1 : p a1) (h2 : p a2) (h3 : p a3) : ∀ c ∈ [a1, a2, a3], p c := by
  intro c h
  simp only [List.mem_cons, List.not_mem_nil, or_false] at h
  rcases h with rfl | rfl | rfl <;> assumption
theorem all4 {p : Nat → Prop} {a1 a2 a3 a4 : Nat} (h1 : p a1) (h2 : p a2) (h3 : p a3) (h4 : p a4) : ∀ c ∈ [a1, a2, a3, a4], p c := by
  intro c h
  simp only [List.mem_cons, List.not_mem_nil, or_false] at h
  rcases h with rfl | rfl | rfl | rfl <;> assumption
theorem all5 {p : Nat → Prop} {a1 a2 a3 a4 a5 : Nat} (h1 : p a1) (h2 : p a2) (h3 : p a3) (h4 : p a4) (h5 : p a5) : ∀ c ∈ [a1, a2, a3, a4, a5], p c := by
  intro c h
  simp only [List.mem_cons, List.not_mem_nil, or_false] at h
  rcases h with rfl | rfl | rfl | rfl | rfl <;> assumption
theorem all6 {p : Nat → Prop} {a1 a2 a3 a4 a5 a6 : Nat} (h1 : p a1) (h2 : p a2) (h3 : p a3) (h4 : p a4) (h5 : p a5) (h6 : p a6) : ∀ c ∈ [a1, a2, a3, a4, a5, a6], p c := by
  intro c h
  simp only [List.mem_cons, List.not_mem_nil, or_false] at h
  rcases h with rfl | rfl | rfl | rfl | rfl | rfl <;> assumption
theorem all7 {p : Nat → Prop} {a1 a2 a3 a4 a5 a6 a7 : Nat} (h1 : p a1) (h2 : p a2) (h3 : p a3) (h4 : p a4) (h5 : p a5) (h6 : p a6) (h7 : p a7) : ∀ c ∈ [a1, a2, a3, a4, a5, a6, a7], p c := by
  intro c h
  simp only [List.mem_cons, List.not_mem_nil, or_false] at h
  rcases h with rfl | rfl | rfl | rfl | rfl | rfl | rfl <;> assumption
theorem all8 {p : Nat → Prop} {a1 a2 a3 a4 a5 a6 a7 a8 : Nat} (h1 : p a1) (h2 : p a2) (h3 : p a3) (h4 : p a4) (h5 : p a5) (h6 : p a6) (h7 : p a7) (h8 : p a8) : ∀ c ∈ [a1, a2, a3, a4, a5, a6, a7, a8], p c := by
  intro c h
  simp only [List.mem_cons, List.not_mem_nil, or_false] at h
  rcases h with rfl | rfl | rfl | rfl | rfl | rfl | rfl | rfl <;> assumption
theorem all9 {p : Nat → Prop} {a1 a2 a3 a4 a5 a6 a7 a8 a9 : Nat} (h1 : p a1) (h2 : p a2) (h3 : p a3) (h4 : p a4) (h5 : p a5) (h6 : p a6) (h7 : p a7) (h8 : p a8) (h9 : p a9) : ∀ c ∈ [a1, a2, a3, a4, a5, a6, a7, a8, a9], p c := by
  intro c h
  simp only [List.mem_cons, List.not_mem_nil, or_false] at h
  rcases h with rfl | rfl | rfl | rfl | rfl | rfl | rfl | rfl | rfl <;> assumption
theorem all10 {p : Nat → Prop} {a1 a2 a3 a4 a5 a6 a7 a8 a9 a10 : Nat} (h1 : p a1) (h2 : p a2) (h3 : p a3) (h4 : p a4) (h5 : p a5) (h6 : p a6) (h7 : p a7) (h8 : p a8) (h9 : p a9) (h10 : p a10) : ∀ c ∈ [a1, a2, a3, a4, a5, a6, a7, a8, a9, a10], p c := by
  intro c h
  simp only [List.mem_cons, List.not_mem_nil, or_false] at h
  rcases h with rfl | rfl | rfl | rfl | rfl | rfl | rfl | rfl | rfl | rfl <;> assumption
theorem all11 {p : Nat → Prop} {a1 a2 a3 a4 a5 a6 a7 a8 a9 a10 a11 : Nat} (h1 : p a1) (h2 : p a2) (h3 : p a3) (h4 : p a4) (h5 : p a5) (h6 : p a6) (h7 : p a7) (h8 : p a8) (h9 : p a9) (h10 : p a10) (h11 : p a11) : ∀ c ∈ [a1, a2, a3, a4, a5, a6, a7, a8, a9, a10, a11], p c := by
  intro c h
  simp only [List.mem_cons, List.not_mem_nil, or_false] at h
  rcases h with rfl | rfl | rfl | rfl | rfl | rfl | rfl | rfl | rfl | rfl | rfl <;> assumption
theorem all12 {p : Nat → Prop} {a1 a2 a3 a4 a5 a6 a7 a8 a9 a10 a11 a12 : Nat} (h1 : p a1) (h2 : p a2) (h3 : p a3) (h4 : p a4) (h5 : p a5) (h6 : p a6) (h7 : p a7) (h8 : p a8) (h9 : p a9) (h10 : p a10) (h11 : p a11) (h12 : p a12) : ∀ c ∈ [a1, a2, a3, a4, a5, a6, a7, a8, a9, a10, a11, a12], p c := by
  intro c h
  simp only [List.mem_cons, List.not_mem_nil, or_false] at h
  rcases h with rfl | rfl | rfl | rfl | rfl | rfl | rfl | rfl | rfl | rfl | rfl | rfl <;> assumption
theorem fnOk_mono {Pg : Program} {w : World} {K : PySem.W.Frag} {mg : Str → Option Value} {base : Heap} {CX : CXT} {j k : Nat} {f : Addr} {fd : FuncData} {ps : List Str} {sp : Sp} (F : FnOk Pg w K mg base CX j f fd ps sp) (h : j ≤ k) : FnOk Pg w K mg base CX k f fd ps sp :=
  ⟨F.len, fun A outer s H args us vs Q E hr => F.run A outer s H args us vs Q E (hr.mono h)⟩
theorem Q_.mono {Pg : Program} {w : World} {e : Ev} {mg : Str → Option Value} {base : Heap} {j k : Nat} {f : Addr} {ps : List Str} {n : Nat} {m : MF} (q : Q_ Pg w e mg base j f ps n m) (h : j ≤ k) : Q_ Pg w e mg base k f ps n m := by
  obtain ⟨fd, F, b, kp⟩ := q
  exact ⟨fd, fnOk_mono F h, b, kp⟩
theorem px_ (p : Addr) (o : Obj) (cls : Value) (dx : Option Addr) (hz : Zc cls dx o) (hf : ∃ vs, o.data = .fields vs) : ∀ a c d, pxOf p cls dx a c d → a = (p, o).1 ∧ (p, o).2.cls = c ∧ (p, o).2.dict = d ∧ ∃ vs, (p, o).2.data = .fields vs := fun a c d h => by
  obtain ⟨rfl, rfl, rfl⟩ := h
  exact ⟨rfl, hz.1, hz.2, hf⟩
theorem roomH_mk {k : Nat} {A : Around} (r : Room k A) (h : Option Value) : RoomH k (A.mark h) := ⟨r.dp, r.un⟩
end PD

/-! the names' codes -/
namespace PD
open PySem PySem.Spec L2
def nm0 : List Str := ["PromiseError", "InvalidStamp", "InvalidRelation", "SizeMismatch", "CycleFound", "InvalidEvent", "InvalidRun", "OutOfBounds", "UnknownName", "UnknownEvent", "UnknownReplica", "InvalidPromise", "InvalidText", "DuplicateName", "Broken", "NoCompletion", "InvalidPaper", "NothingToUndo", "Refused", "StoreInUse", "FrameMismatch", "NothingToRedo", "InvalidHistory", "StepFailed", "Stamp", "__init__", "__eq__", "__lt__", "__le__", "__add__"]
def nm1 : List Str := ["__radd__", "__str__", "tick", "read", "cycle", "index", "limit", "name", "number", "replica", "line", "events", "rule", "split", "count", "place", "append", "find", "Relation", "__iter__", "__len__", "__bool__", "__contains__", "__or__", "__and__", "__sub__", "__xor__", "__mul__", "__floordiv__", "__invert__"]
def nm2 : List Str := ["__neg__", "__pos__", "__getitem__", "__setitem__", "__ior__", "__isub__", "copy", "identity", "full", "chain", "size", "_pairs", "clear", "insert", "reverse", "pop", "Event", "has", "row", "changed", "session", "item", "marks", "stamp", "seen", "join", "get", "replace", "Run", "replaced"]
def nm3 : List Str := ["relation", "holds", "part", "marked", "answer", "_events", "LIMIT", "upper", "lower", "Promise", "called", "renumbered", "body", "head", "partition", "Judge", "__call__", "_promises", "Lot", "names", "picked", "Answer", "follows", "paper", "example", "Table", "selection_of", "closure_of", "closure", "entries"]
def nm4 : List Str := ["closed", "least", "bases", "text", "_lot", "_closures", "Shelf", "move_to", "add", "drop", "swap", "edit", "undo", "as_lot", "_earlier", "_table", "Store", "rules", "run", "replicas", "change_rules", "check_replica", "check_event", "perform", "deliver", "sync", "needs", "held", "wrote", "knows"]
def nm5 : List Str := ["take_step", "play", "setter", "_rules", "_run", "_held", "_needs", "values"]
def nmL : List Str := nm0 ++ nm1 ++ nm2 ++ nm3 ++ nm4 ++ nm5
def nm (n : Nat) : Str := nmL.getD n ⟨#[n + 2000000]⟩
def nmOk : Bool := decide nmL.Nodup && nmL.all fun x => x.cps.toList.all fun c => decide (c < 2000000)
theorem nm_ok : nmOk = true := by decide +kernel
theorem nm_inj : ∀ i j, nm i = nm j → i = j := by
  obtain ⟨h1, h2⟩ := He.ba nm_ok
  have h1 := of_decide_eq_true h1
  have big : ∀ x ∈ nmL, ∀ n : Nat, x ≠ ⟨#[n + 2000000]⟩ := fun x hx n h => by
    have := List.all_eq_true.mp h2 x hx
    subst h
    simp at this
    omega
  have out : ∀ i, nmL.length ≤ i → nm i = ⟨#[i + 2000000]⟩ := fun i hi => by
    unfold nm
    rw [List.getD_eq_getElem?_getD, List.getElem?_eq_none hi]; rfl
  have inn : ∀ i (h : i < nmL.length), nm i = nmL[i] := fun i hi => by
    unfold nm
    rw [List.getD_eq_getElem?_getD, List.getElem?_eq_getElem hi]; rfl
  intro i j h
  by_cases hi : i < nmL.length
  · by_cases hj : j < nmL.length
    · rw [inn i hi, inn j hj] at h
      exact (List.getElem_inj h1).mp h
    · rw [inn i hi, out j (Nat.le_of_not_lt hj)] at h
      exact absurd h (big _ (List.getElem_mem hi) j)
  · by_cases hj : j < nmL.length
    · rw [out i (Nat.le_of_not_lt hi), inn j hj] at h
      exact absurd h.symm (big _ (List.getElem_mem hj) i)
    · rw [out i (Nat.le_of_not_lt hi), out j (Nat.le_of_not_lt hj)] at h
      injection h with h
      injection h with h
      simp at h
      exact h
abbrev ev (K : PySem.W.Frag) (px : Addr → Value → Option Addr → Prop) : Ev := ⟨K, nm, nm_inj, px⟩
end PD

/-! PD13: what the combinators compute, for simp -/
namespace PD
open PySem PySem.Spec L2 L2H
theorem R.bind_cg {α β : Type} {x y : R α} {k : α → List Sl → R β} (h : x = y) : x.bind k = y.bind k := by rw [h]
@[simp] theorem R.bind_ite {α β : Type} {p : Prop} [Decidable p] {x y : R α} {k : α → List Sl → R β} : (if p then x else y).bind k = if p then x.bind k else y.bind k := by split <;> rfl
section
variable {fa fb fc : EF} {fs : AF} {f g : SF} {t u : TF} {G : List Sl} {i j : Nat} {d : D}
@[simp] theorem cVar_ap : cVar i G = match G[i]? with
  | some (.imm d) => .ok (.val d) G
  | some (.own _) => .ok (.sl i) G
  | some (.lnd _) => .ok (.sl i) G
  | some (.bor _) => .ok (.sl i) G
  | some (.exn _ _ _) => .ok (.sl i) G
  | _ => .bad := rfl
@[simp] theorem cC_ap : cC d G = .ok (.val d) G := rfl
@[simp] theorem cBin_ap {k : D → D → Option PV} : cBin k fa fb G = (fa G).bind fun a G1 => (fb G1).bind fun b G2 => fin2 k a b G2 := rfl
def outPV (o : Option PV) (G : List Sl) : R PV := match o with
  | some (.val d) => .ok (.val d) G
  | some (.fr d) => .ok (.fr d) G
  | _ => .bad
@[simp] theorem outPV_val : outPV (some (.val d)) G = .ok (.val d) G := rfl
@[simp] theorem outPV_fr : outPV (some (.fr d)) G = .ok (.fr d) G := rfl
@[simp] theorem outPV_ite {p : Prop} [Decidable p] {x y : Option PV} : outPV (if p then x else y) G = if p then outPV x G else outPV y G := by split <;> rfl
@[simp] theorem outPV_none : outPV none G = .bad := rfl
@[simp] theorem fin2_ap {k : D → D → Option PV} {a b : PV} : fin2 k a b G = match peek a G, peek b G with
  | some d1, some d2 => outPV (k d1 d2) G
  | _, _ => .bad := rfl
@[simp] theorem peek_val : peek (.val d) G = some d := rfl
@[simp] theorem peek_fr : peek (.fr d) G = some d := rfl
@[simp] theorem peek_sl : peek (.sl i) G = match G[i]? with
    | some (.imm d) => some d
    | some (.own d) => some d
    | some (.lnd d) => some d
    | some (.bor d) => some d
    | _ => none := rfl
@[simp] theorem esc_val : esc (.val d) G = some (d, G) := rfl
@[simp] theorem esc_fr : esc (.fr d) G = some (d, G) := rfl
@[simp] theorem esc_sl : esc (.sl i) G = match G[i]? with
    | some (.imm d) => some (d, G)
    | some (.own d) => some (d, G.set i (.imm d))
    | _ => none := rfl
@[simp] theorem cTB_ap : cTB fa G = (fa G).bind fun pv G1 => match pv with
  | .val (.bl b) => .ok b G1
  | _ => .bad := rfl
@[simp] theorem cTT_ap : cTT fa G = (fa G).bind fun pv G1 => match peek pv G1 with
  | some d => (match tru d with
    | some b => .ok b G1
    | none => .bad)
  | none => .bad := rfl
@[simp] theorem cAnd_ap : cAnd t u G = (t G).bind fun b G1 => if b = true then u G1 else .ok false G1 := rfl
@[simp] theorem cOr_ap : cOr t u G = (t G).bind fun b G1 => if b = true then .ok true G1 else u G1 := rfl
@[simp] theorem cNot_ap : cNot t G = (t G).bind fun b G1 => .ok (!b) G1 := rfl
def andK (fb : EF) (pv : PV) (G1 : List Sl) : R PV := match pv with
  | .val (.bl b) => if b = true then fb G1 else .ok (.val (.bl false)) G1
  | _ => .bad
def orK (fb : EF) (pv : PV) (G1 : List Sl) : R PV := match pv with
  | .val (.bl b) => if b = true then .ok (.val (.bl true)) G1 else fb G1
  | _ => .bad
@[simp] theorem andK_ap {b : Bool} : andK fb (.val (.bl b)) G = if b = true then fb G else .ok (.val (.bl false)) G := rfl
@[simp] theorem orK_ap {b : Bool} : orK fb (.val (.bl b)) G = if b = true then .ok (.val (.bl true)) G else fb G := rfl
@[simp] theorem cAndV_ap : cAndV fa fb G = (fa G).bind (andK fb) := by
  show (fa G).bind _ = _
  congr 1; funext pv G1
  cases pv with
  | val d => cases d with
    | bl b => cases b <;> rfl
    | _ => rfl
  | _ => rfl
@[simp] theorem cOrV_ap : cOrV fa fb G = (fa G).bind (orK fb) := by
  show (fa G).bind _ = _
  congr 1; funext pv G1
  cases pv with
  | val d => cases d with
    | bl b => cases b <;> rfl
    | _ => rfl
  | _ => rfl
@[simp] theorem cNotV_ap : cNotV fa G = (fa G).bind fun pv G1 => match pv with
  | .val (.bl b) => .ok (.val (.bl (!b))) G1
  | _ => .bad := rfl
@[simp] theorem cNeg_ap : cNeg fa G = (fa G).bind fun pv G1 => match pv with
  | .val (.int i) => .ok (.val (.int (-i))) G1
  | _ => .bad := rfl
def chK (k' : D → D → Option PV) (fc : EF) (b : PV) (r : PV) (G3 : List Sl) : R PV := match r with
  | .val (.bl x) => if x = true then (fc G3).bind fun c G4 => fin2 k' b c G4 else .ok (.val (.bl false)) G3
  | _ => .bad
@[simp] theorem chK_ap {k' : D → D → Option PV} {b : PV} {x : Bool} : chK k' fc b (.val (.bl x)) G = if x = true then (fc G).bind fun c G4 => fin2 k' b c G4 else .ok (.val (.bl false)) G := rfl
@[simp] theorem cChain_ap {k k' : D → D → Option PV} : cChain k k' fa fb fc G = (fa G).bind fun a G1 => (fb G1).bind fun b G2 => (fin2 k a b G2).bind (chK k' fc b) := by
  show (fa G).bind _ = _
  congr 1; funext a G1; congr 1; funext b G2; congr 1; funext r G3
  cases r with
  | val d => cases d with
    | bl b => cases b <;> rfl
    | _ => rfl
  | _ => rfl
@[simp] theorem cIfE_ap : cIfE t fa fb G = (t G).bind fun b G1 => if b = true then fa G1 else fb G1 := rfl
@[simp] theorem aNil_ap : aNil G = .ok [] G := rfl
@[simp] theorem aCons_ap : aCons fa fs G = (fa G).bind fun p G1 => (fs G1).bind fun ps G2 => .ok (p :: ps) G2 := rfl
@[simp] theorem escs_nil : escs [] G = some ([], G) := rfl
@[simp] theorem escs_cons {p : PV} {ps : List PV} : escs (p :: ps) G = match esc p G with
    | some (d, G1) => (match escs ps G1 with
      | some (ds, G2) => some (d :: ds, G2)
      | none => none)
    | none => none := rfl
@[simp] theorem peeks_nil : peeks [] G = some [] := rfl
@[simp] theorem peeks_cons {p : PV} {ps : List PV} : peeks (p :: ps) G = match peek p G with
    | some d => (match peeks ps G with
      | some ds => some (d :: ds)
      | none => none)
    | none => none := rfl
@[simp] theorem cTup_ap : cTup fs G = (fs G).bind fun ps G1 => match escs ps G1 with
  | some (ds, G2) => if ds.length ≤ 1000 then .ok (.val (.tup ds)) G2 else .bad
  | none => .bad := rfl
@[simp] theorem cLst_ap : cLst fs G = (fs G).bind fun ps G1 => match escs ps G1 with
  | some (ds, G2) => if ds.length ≤ 1000 then .ok (.fr (.lst ds)) G2 else .bad
  | none => .bad := rfl
@[simp] theorem oNo_ap : oNo G = .ok none G := rfl
@[simp] theorem oSome_ap : oSome fa G = (fa G).bind fun pv G1 => match pv with
  | .val (.int i) => .ok (some i) G1
  | _ => .bad := rfl
@[simp] theorem cSl_ap {l u : F (Option Int)} : cSl fa l u G = (fa G).bind fun p G1 => (l G1).bind fun lo G2 => (u G2).bind fun hi G3 => match peek p G3 with
  | some d => outPV (kSl d lo hi) G3
  | none => .bad := by
  unfold cSl outPV
  congr 1; funext p G1; congr 1; funext lo G2; congr 1; funext hi G3
  cases peek p G3 with
  | none => rfl
  | some d =>
    dsimp only
    cases kSl d lo hi with
    | none => rfl
    | some r => cases r <;> rfl
@[simp] theorem cFld_ap {cs : List Nat} {f : Nat} : cFld cs f fa G = (fa G).bind fun p G1 => match peek p G1 with
  | some (.obj c ns ds) => if cs.contains c then (match lkN ns ds f with
    | some d => .ok (.val d) G1
    | none => .bad) else .bad
  | _ => .bad := rfl
@[simp] theorem cCB_ap {k : List D → Option PV} : cCB k fs G = (fs G).bind fun ps G1 => match peeks ps G1 with
  | some ds => outPV (k ds) G1
  | none => .bad := rfl
@[simp] theorem cIsE_ap {tb : List (Ty × Ty × Bool)} {cs : List Nat} : cIsE tb cs i fc G = match G[i]? with
  | some (.exn c _ _) => if cs.contains c then (fc G).bind fun pv G1 => (match pv with
    | .val d => (match G1[i]? with
      | some (.exn c' _ _) => if c' = c then (match kIsE tb c d with
        | some b => .ok (.val (.bl b)) G1
        | none => .bad) else .bad
      | _ => .bad)
    | _ => .bad) else .bad
  | _ => .bad := rfl
@[simp] theorem cCall_ap {m : MF} {mds : List Md} : cCall m mds fs G = (fs G).bind fun ps G1 => runC m mds ps G1 := rfl
@[simp] theorem runC_ap {m : MF} {mds : List Md} {ps : List PV} : runC m mds ps G = match outs mds ps G with
  | some (qs, G1) => if okIx (mIx mds qs) (bIx mds qs) then (match toSls G1 mds qs with
    | some A => finC mds qs G1 (m A)
    | none => .bad) else .bad
  | none => .bad := rfl
@[simp] theorem cMeth_ap {c mn : Nat} {m : MF} {mds : List Md} : cMeth c mn m mds fa fs G = (fa G).bind fun p G1 => match peek p G1 with
  | some (.obj c' ns _) => if c' = c ∧ ns.contains mn = false then (fs G1).bind fun ps G2 => runC m mds (p :: ps) G2 else .bad
  | _ => .bad := rfl
@[simp] theorem cMake_ap {c : Nat} {m : MF} {mds : List Md} : cMake c m mds fs G = (fs G).bind fun ps G1 => finM (runC m (.m :: mds) (.sl G1.length :: ps) (G1 ++ [.own (.obj c [] [])])) := rfl
@[simp] theorem finM_ok {G2 : List Sl} {d : D} : finM (.ok (.val .non) (G2 ++ [.own d])) = .ok (.fr d) G2 := by
  unfold finM; simp
@[simp] theorem finM_ok' {G2 : List Sl} : finM (.ok (.val .non) G2) = match G2.getLast? with
    | some (.own d) => .ok (.fr d) G2.dropLast
    | _ => .bad := rfl
@[simp] theorem finM_ex {c : Nat} {ns : List Nat} {ds : List D} {G2 : List Sl} : finM (.ex c ns ds G2) = .ex c ns ds G2.dropLast := rfl
@[simp] theorem finM_ite {p : Prop} [Decidable p] {x y : R PV} : finM (if p then x else y) = if p then finM x else finM y := by split <;> rfl
@[simp] theorem finC_val {mds : List Md} {qs : List PV} {A1 : List Sl} : finC mds qs G (.ok (.val d) A1) = if noOwn A1 then (match backs mds qs A1 G with
    | some G2 => .ok (.val d) G2
    | none => .bad) else .bad := rfl
@[simp] theorem finC_fr {mds : List Md} {qs : List PV} {A1 : List Sl} : finC mds qs G (.ok (.fr d) A1) = if noOwn A1 then (match backs mds qs A1 G with
    | some G2 => .ok (.fr d) G2
    | none => .bad) else .bad := rfl
@[simp] theorem finC_ex {mds : List Md} {qs : List PV} {A1 : List Sl} {c : Nat} {ns : List Nat} {ds : List D} : finC mds qs G (.ex c ns ds A1) = if noOwn A1 then (match backs mds qs A1 G with
    | some G2 => .ex c ns ds G2
    | none => .bad) else .bad := rfl
@[simp] theorem finC_ite {mds : List Md} {qs : List PV} {p : Prop} [Decidable p] {x y : R PV} : finC mds qs G (if p then x else y) = if p then finC mds qs G x else finC mds qs G y := by split <;> rfl
@[simp] theorem finC_bad {mds : List Md} {qs : List PV} : finC mds qs G .bad = .bad := rfl
@[simp] theorem finM_bad : finM .bad = .bad := rfl
@[simp] theorem finF_bad {np : Nat} : finF np .bad = .bad := rfl
@[simp] theorem noEx_bad {α : Type} : noEx (R.bad : R α) = .bad := rfl
@[simp] theorem noOwn_nil : noOwn [] = true := rfl
@[simp] theorem noOwn_no {A : List Sl} : noOwn (.no :: A) = noOwn A := rfl
@[simp] theorem noOwn_imm {A : List Sl} : noOwn (.imm d :: A) = noOwn A := rfl
@[simp] theorem noOwn_lnd {A : List Sl} : noOwn (.lnd d :: A) = noOwn A := rfl
@[simp] theorem noOwn_bor {A : List Sl} : noOwn (.bor d :: A) = noOwn A := rfl
@[simp] def q_outs_1 := @outs.eq_1
@[simp] def q_outs_2 := @outs.eq_2
@[simp] def q_outs_3 := @outs.eq_3
@[simp] def q_outs_4 := @outs.eq_4
@[simp] def q_mIx_1 := @mIx.eq_1
@[simp] def q_mIx_2 := @mIx.eq_2
@[simp] def q_mIx_3 := @mIx.eq_3
@[simp] def q_bIx_1 := @bIx.eq_1
@[simp] def q_bIx_2 := @bIx.eq_2
@[simp] def q_bIx_3 := @bIx.eq_3
@[simp] def q_toSl_1 := @toSl.eq_1
@[simp] def q_toSl_2 := @toSl.eq_2
@[simp] def q_toSl_3 := @toSl.eq_3
@[simp] def q_toSl_4 := @toSl.eq_4
@[simp] def q_toSl_5 := @toSl.eq_5
@[simp] def q_toSl_6 := @toSl.eq_6
@[simp] def q_toSls_1 := @toSls.eq_1
@[simp] def q_toSls_2 := @toSls.eq_2
@[simp] def q_toSls_3 := @toSls.eq_3
@[simp] def q_backs_1 := @backs.eq_1
@[simp] def q_backs_2 := @backs.eq_2
@[simp] def q_backs_3 := @backs.eq_3
@[simp] def q_backs_4 := @backs.eq_4
@[simp] def q_okIx_1 := @okIx.eq_1
@[simp] def q_isLnd_1 := @isLnd.eq_1
@[simp] def q_isLnd_2 := @isLnd.eq_2
@[simp] def q_putSl_1 := @putSl.eq_1
@[simp] def q_putSl_2 := @putSl.eq_2
@[simp] def q_putSl_3 := @putSl.eq_3
@[simp] def q_putN_1 := @putN.eq_1
@[simp] def q_putN_2 := @putN.eq_2
@[simp] def q_lkN_1 := @lkN.eq_1
@[simp] def q_lkN_2 := @lkN.eq_2
@[simp] def q_kl_1 := @kl.eq_1
@[simp] def q_kl_2 := @kl.eq_2
@[simp] theorem cSeq_ap : cSeq f g G = (f G).bind (seqK g) := rfl
@[simp] theorem seqK_nx : seqK g .nx G = g G := rfl
@[simp] theorem seqK_brk : seqK g .brk G = .ok .brk G := rfl
@[simp] theorem seqK_ct : seqK g .ct G = .ok .ct G := rfl
@[simp] theorem seqK_ret {pv : PV} : seqK g (.ret pv) G = .ok (.ret pv) G := rfl
@[simp] theorem cNil_ap : cNil G = .ok .nx G := rfl
@[simp] theorem cBrk_ap : cBrk G = .ok .brk G := rfl
@[simp] theorem cCt_ap : cCt G = .ok .ct G := rfl
@[simp] theorem cDrop_ap : cDrop fa G = (fa G).bind fun _ G1 => .ok .nx G1 := rfl
@[simp] theorem cIf_ap : cIf t f g G = (t G).bind fun b G1 => if b = true then f G1 else g G1 := rfl
@[simp] theorem cRet_ap : cRet fa G = (fa G).bind retK := rfl
@[simp] theorem retK_val : retK (.val d) G = .ok (.ret (.val d)) G := rfl
@[simp] theorem retK_fr : retK (.fr d) G = .ok (.ret (.fr d)) G := rfl
@[simp] theorem retK_sl : retK (.sl i) G = match G[i]? with
    | some (.own d) => .ok (.ret (.fr d)) (G.set i .no)
    | some (.imm d) => .ok (.ret (.val d)) G
    | _ => .bad := rfl
@[simp] theorem cRetN_ap : cRetN G = .ok (.ret (.val .non)) G := rfl
@[simp] theorem put_ap {pv : PV} : put i pv G = match G[i]? with
  | none => none
  | some s => if isLnd s then none else (match pv with
    | .val d => some (G.set i (.imm d))
    | .fr d => some (G.set i (.own d))
    | .sl j => match esc (.sl j) G with
      | some (d, G1) => some (G1.set i (.imm d))
      | none => none) := rfl
@[simp] theorem cSet_ap : cSet i fa G = (fa G).bind fun pv G1 => match put i pv G1 with
  | some G2 => .ok .nx G2
  | none => .bad := rfl
@[simp] theorem cAsg_ap {g : GF} : cAsg g fa G = (fa G).bind fun pv G1 => match esc pv G1 with
  | some (d, G2) => (match g d G2 with
    | some G3 => .ok .nx G3
    | none => .bad)
  | none => .bad := rfl
@[simp] theorem gN_ap : gN i d G = put i (.val d) G := rfl
@[simp] theorem gT_ap {n : Nat} {gs : List D → List Sl → Option (List Sl)} {ds : List D} : gT n gs (.tup ds) G = if ds.length = n then gs ds G else none := rfl
@[simp] theorem gsNil_ap : gsNil [] G = some G := rfl
@[simp] theorem gsCons_ap {g : GF} {gs : List D → List Sl → Option (List Sl)} {ds : List D} : gsCons g gs (d :: ds) G = match g d G with
    | some G1 => gs ds G1
    | none => none := rfl
@[simp] theorem cFor_ap {src : F (List D)} {g : GF} : cFor src g f G = (src G).bind fun ds G1 => fLoop g f ds G1 := rfl
@[simp] theorem fLoop_nil {g : GF} : fLoop g f [] G = .ok .nx G := rfl
theorem fLoop_cons {g : GF} {ds : List D} : fLoop g f (d :: ds) G = match g d G with
    | none => .bad
    | some G1 => (f G1).bind fun c G2 => match c with
      | .nx => fLoop g f ds G2
      | .ct => fLoop g f ds G2
      | .brk => .ok .nx G2
      | .ret v => .ok (.ret v) G2 := rfl
@[simp] theorem sSeq_ap : sSeq fa G = (fa G).bind fun pv G1 => match pv with
  | .sl i => (match G1[i]? with
    | some (.bor (.lst ds)) => .ok ds G1
    | _ => sSeqE pv G1)
  | _ => sSeqE pv G1 := rfl
@[simp] theorem sSeqE_ap {pv : PV} : sSeqE pv G = match esc pv G with
  | some (d, G2) => (match seqOf d with
    | some ds => .ok ds G2
    | none => .bad)
  | none => .bad := rfl
theorem rOk_nat {n : Nat} (h : n < 1000000) : rOk (n : Int) = true := by
  unfold rOk; rw [decide_eq_true_eq]; omega
theorem rOk_int {n : Int} (h : -1000000 < n) (h2 : n < 1000000) : rOk n = true := by
  unfold rOk; rw [decide_eq_true_eq]; omega
@[simp] theorem rOk_lit {k : Nat} : rOk (no_index (OfNat.ofNat k : Int)) = decide (OfNat.ofNat k < 4611686018427387904) := rfl
@[simp] theorem sRange1_ap : sRange1 fs G = (fs G).bind fun ps G1 => match ps with
  | [.val (.int j)] => if rOk j = true then .ok (rangeD 0 j.toNat) G1 else .bad
  | _ => .bad := rfl
@[simp] theorem sRange2_ap : sRange2 fs G = (fs G).bind fun ps G1 => match ps with
  | [.val (.int i), .val (.int j)] => if rOk i = true ∧ rOk j = true then .ok (rangeD i (j - i).toNat) G1 else .bad
  | _ => .bad := rfl
@[simp] theorem wrD_ap : wrD i G = match G[i]? with
  | some (.own d) => some (d, .own d)
  | some (.lnd d) => some (d, .lnd d)
  | _ => none := rfl
@[simp] theorem cApp_ap : cApp i fa G = match wrD i G with
  | some (.lst _, _) => (fa G).bind fun pv G1 => (match esc pv G1 with
    | some (d, G2) => (match wrD i G2 with
      | some (.lst ds, s) => if ds.length < 1000000 then .ok (.val .non) (G2.set i (putSl (.lst (ds ++ [d])) s)) else .bad
      | _ => .bad)
    | none => .bad)
  | _ => .bad := rfl
@[simp] theorem cSetIx_ap : cSetIx i fa fb G = (fb G).bind fun pv G1 => match wrD i G1 with
  | some (.lst _, _) => (fa G1).bind fun pk G2 => (match pk with
    | .val (.int k) => (match esc pv G2 with
      | some (d, G3) => (match wrD i G3 with
        | some (.lst ds, s) => (match ixN ds.length k with
          | some j => .ok .nx (G3.set i (putSl (.lst (ds.set j d)) s))
          | none => .bad)
        | _ => .bad)
      | none => .bad)
    | _ => .bad)
  | _ => .bad := rfl
@[simp] theorem cSetF_ap {cs : List Nat} {f : Nat} : cSetF cs i f fa G = (fa G).bind fun pv G1 => match esc pv G1 with
  | some (d, G2) => (match wrD i G2 with
    | some (.obj c ns ds, s) => if cs.contains c ∧ ns.length < 900 ∧ ns.length = ds.length then .ok .nx (G2.set i (putSl (.obj c (putN f d ns ds).1 (putN f d ns ds).2) s)) else .bad
    | _ => .bad)
  | none => .bad := rfl
@[simp] theorem cRaise0_ap {c : Nat} : cRaise0 c G = .ex c [] [] G := rfl
def tryK (tb : List (Nat × Bool)) (oi : Option Nat) (fh : SF) (r : R Ctl) : R Ctl := match r with
  | .ex c ns ds G1 => (match tb.lookup c with
    | some true => (match opn oi c ns ds G1 with
      | some G2 => endX oi (fh G2)
      | none => .bad)
    | some false => .ex c ns ds G1
    | none => .bad)
  | r => r
@[simp] theorem cTry1_ap {tb : List (Nat × Bool)} {oi : Option Nat} {fh : SF} : cTry1 tb oi f fh G = tryK tb oi fh (f G) := rfl
@[simp] theorem tryK_ok {tb : List (Nat × Bool)} {oi : Option Nat} {fh : SF} {c : Ctl} : tryK tb oi fh (.ok c G) = .ok c G := rfl
@[simp] theorem tryK_ex {tb : List (Nat × Bool)} {oi : Option Nat} {fh : SF} {c : Nat} {ns : List Nat} {ds : List D} : tryK tb oi fh (.ex c ns ds G) = match tb.lookup c with
    | some true => (match opn oi c ns ds G with
      | some G2 => endX oi (fh G2)
      | none => .bad)
    | some false => .ex c ns ds G
    | none => .bad := rfl
@[simp] theorem tryK_ite {tb : List (Nat × Bool)} {oi : Option Nat} {fh : SF} {p : Prop} [Decidable p] {x y : R Ctl} : tryK tb oi fh (if p then x else y) = if p then tryK tb oi fh x else tryK tb oi fh y := by split <;> rfl
@[simp] def q_opn_1 := @opn.eq_1
@[simp] def q_opn_2 := @opn.eq_2
@[simp] def q_endX_1 := @endX.eq_1
@[simp] def q_endX_2 := @endX.eq_2
@[simp] def q_endX_3 := @endX.eq_3
@[simp] def q_endX_4 := @endX.eq_4
@[simp] def q_endX_5 := @endX.eq_5
@[simp] def q_clr_1 := @clr.eq_1
@[simp] def q_clr_2 := @clr.eq_2
@[simp] def q_dropX_1 := @dropX.eq_1
@[simp] def q_dropX_2 := @dropX.eq_2
@[simp] def q_noX_1 := @noX.eq_1
@[simp] theorem mkFn_ap {np nl : Nat} {A : List Sl} : mkFn np nl f A = finF np (f (A ++ List.replicate nl .no)) := rfl
@[simp] theorem finF_val {np : Nat} : finF np (.ok (.ret (.val d)) G) = if np ≤ G.length then .ok (.val d) ((G.take np).map kl) else .bad := rfl
@[simp] theorem finF_fr {np : Nat} : finF np (.ok (.ret (.fr d)) G) = if np ≤ G.length then .ok (.fr d) ((G.take np).map kl) else .bad := rfl
@[simp] theorem finF_nx {np : Nat} : finF np (.ok .nx G) = if np ≤ G.length then .ok (.val .non) ((G.take np).map kl) else .bad := rfl
@[simp] theorem finF_ex {np : Nat} {c : Nat} {ns : List Nat} {ds : List D} : finF np (.ex c ns ds G) = if np ≤ G.length then .ex c ns ds ((G.take np).map kl) else .bad := rfl
@[simp] theorem finF_ite {np : Nat} {p : Prop} [Decidable p] {x y : R Ctl} : finF np (if p then x else y) = if p then finF np x else finF np y := by split <;> rfl
@[simp] theorem mkFnH_ap {np nl : Nat} {A : List Sl} : mkFnH np nl f A = finF np (noEx (f (A ++ List.replicate nl .no))) := rfl
@[simp] theorem noEx_ok {α : Type} {a : α} : noEx (R.ok a G) = .ok a G := rfl
@[simp] theorem noEx_ite {α : Type} {p : Prop} [Decidable p] {x y : R α} : noEx (if p then x else y) = if p then noEx x else noEx y := by split <;> rfl
end
/-! ### operators -/
section
variable {i j : Int} {x y : Str} {ds es : List D} {a b : D}
@[simp] theorem kAdd_int : kAdd (.int i) (.int j) = some (.val (.int (i + j))) := rfl
@[simp] theorem kSub_int : kSub (.int i) (.int j) = some (.val (.int (i - j))) := rfl
@[simp] theorem kMul_int : kMul (.int i) (.int j) = if i.natAbs < 2 ^ 64 ∨ j.natAbs < 2 ^ 64 then some (.val (.int (i * j))) else none := by
  rfl
@[simp] theorem kMulS {x : Str} {k : Int} : kMul (.str x) (.int k) = if 0 ≤ k ∧ k.natAbs < 1000000 ∧ x.length * k.toNat ≤ 16777216 then some (.val (.str (repS x k))) else none := rfl
@[simp] theorem kMulL {xs : List D} {k : Int} : kMul (.lst xs) (.int k) = if 0 ≤ k ∧ k.natAbs < 1000000 ∧ xs.length * k.toNat ≤ 16777216 then some (.fr (.lst (List.replicate k.toNat xs).flatten)) else none := rfl
@[simp] theorem kLeS {x y : Str} : kLe (.str x) (.str y) = some (.val (.bl (!decide (y.cps.toList < x.cps.toList)))) := rfl
@[simp] theorem kMod_int : kMod (.int i) (.int j) = if 0 < j then some (.val (.int (i % j))) else none := by
  unfold kMod kInt; dsimp only; split <;> rfl
@[simp] theorem kFdiv_int : kFdiv (.int i) (.int j) = if 0 < j ∧ j < 2 ^ 100 then some (.val (.int (i / j))) else none := by
  unfold kFdiv kInt; dsimp only; split <;> rfl
@[simp] theorem kPow_int : kPow (.int i) (.int j) = if 0 ≤ j ∧ j ≤ 1000000 ∧ i.natAbs < 2 ^ 64 then some (.val (.int (i ^ j.toNat))) else none := by
  unfold kPow kInt; dsimp only; split <;> rfl
@[simp] theorem kAdd_lst : kAdd (.lst ds) (.lst es) = if ds.length + es.length ≤ sizeLine then some (.fr (.lst (ds ++ es))) else none := rfl
@[simp] theorem kAdd_tup : kAdd (.tup ds) (.tup es) = if ds.length + es.length ≤ sizeLine then some (.val (.tup (ds ++ es))) else none := rfl
@[simp] theorem kLt_int : kLt (.int i) (.int j) = some (.val (.bl (decide (i < j)))) := rfl
@[simp] theorem kLe_int : kLe (.int i) (.int j) = some (.val (.bl (decide (i ≤ j)))) := rfl
@[simp] theorem kLt_tup {a b c d : Int} : kLt (.tup [.int a, .int b]) (.tup [.int c, .int d]) = some (.val (.bl (HT.lexLt [a, b] [c, d]))) := rfl
@[simp] theorem kLe_tup {a b c d : Int} : kLe (.tup [.int a, .int b]) (.tup [.int c, .int d]) = some (.val (.bl (lexLeI [a, b] [c, d]))) := rfl
@[simp] theorem kGt_int : kGt (.int i) (.int j) = some (.val (.bl (decide (j < i)))) := rfl
@[simp] theorem kGe_int : kGe (.int i) (.int j) = some (.val (.bl (decide (j ≤ i)))) := rfl
@[simp] theorem kEq_int : kEq (.int i) (.int j) = some (.val (.bl (decide (i = j)))) := by
  unfold kEq; simp [toPy, PyData.plain, PyData.depth, PyData.eqv]; rfl
@[simp] theorem kNe_int : kNe (.int i) (.int j) = some (.val (.bl (!decide (i = j)))) := by
  unfold kNe; simp [toPy, PyData.plain, PyData.depth, PyData.eqv]; rfl
@[simp] theorem kIsN_non {neg : Bool} : kIsN neg .non .non = some (.val (.bl (neg != true))) := rfl
@[simp] theorem kIsN_int {neg : Bool} : kIsN neg (.int i) .non = some (.val (.bl (neg != false))) := rfl
@[simp] theorem kIsN_bl {neg c : Bool} : kIsN neg (.bl c) .non = some (.val (.bl (neg != false))) := rfl
@[simp] theorem kIsN_str {neg : Bool} : kIsN neg (.str x) .non = some (.val (.bl (neg != false))) := rfl
@[simp] theorem kIsN_lst {neg : Bool} : kIsN neg (.lst ds) .non = some (.val (.bl (neg != false))) := rfl
@[simp] theorem kIsN_tup {neg : Bool} : kIsN neg (.tup ds) .non = some (.val (.bl (neg != false))) := rfl
@[simp] theorem kIsN_obj {neg : Bool} {c : Nat} {ns : List Nat} : kIsN neg (.obj c ns ds) .non = some (.val (.bl (neg != false))) := rfl
@[simp] theorem kIx_lst : kIx (.lst ds) (.int i) = (atI ds i).map .val := rfl
@[simp] theorem kIx_fz : kIx (.fz ds) (.int i) = (atI ds i).map .val := rfl
@[simp] theorem kIx_tup : kIx (.tup ds) (.int i) = (atI ds i).map .val := rfl
theorem ixN_nat {n k : Nat} (h : k < n) : ixN n (k : Int) = some k := by
  unfold ixN; simp [h]
@[simp] theorem ixN_lit {n k : Nat} : ixN n (no_index (OfNat.ofNat k : Int)) = if (OfNat.ofNat k : Nat) < n then some (OfNat.ofNat k) else none := by
  show ixN n (k : Int) = if k < n then some k else none
  unfold ixN; simp
@[simp] theorem atI_lit {α : Type} {xs : List α} {k : Nat} : atI xs (no_index (OfNat.ofNat k : Int)) = xs[(OfNat.ofNat k : Nat)]? := by
  show atI xs (k : Int) = xs[k]?
  unfold atI ixN
  by_cases h : k < xs.length
  · simp [h]
  · simp [h]
theorem atI_nat {α : Type} {xs : List α} {k : Nat} : atI xs (k : Int) = xs[k]? := atI_lit (k := k)
@[simp] theorem kLen_lst : kLen [.lst ds] = some (.val (.int ds.length)) := rfl
@[simp] theorem kLen_fz : kLen [.fz ds] = some (.val (.int ds.length)) := rfl
@[simp] theorem kLen_tup : kLen [.tup ds] = some (.val (.int ds.length)) := rfl
@[simp] theorem kIntC_int : kIntC [.int i] = some (.val (.int i)) := rfl
@[simp] theorem kList_lst : kList [.lst ds] = some (.fr (.lst ds)) := rfl
@[simp] theorem kList_fz : kList [.fz ds] = some (.fr (.lst ds)) := rfl
@[simp] theorem kList_tup : kList [.tup ds] = some (.fr (.lst ds)) := rfl
@[simp] theorem kTuple_lst : kTuple [.lst ds] = some (.val (.tup ds)) := rfl
@[simp] theorem kTuple_tup : kTuple [.tup ds] = some (.val (.tup ds)) := rfl
@[simp] theorem kSl_lst {lo hi : Option Int} : kSl (.lst ds) lo hi = some (.fr (.lst (cutD ds lo hi))) := rfl
@[simp] theorem kSl_tup {lo hi : Option Int} : kSl (.tup ds) lo hi = some (.val (.tup (cutD ds lo hi))) := rfl
@[simp] theorem tru_bl {c : Bool} : tru (.bl c) = some c := rfl
@[simp] theorem tru_int : tru (.int i) = some (i != 0) := rfl
@[simp] theorem tru_lst : tru (.lst ds) = some (!ds.isEmpty) := rfl
@[simp] theorem tru_tup : tru (.tup ds) = some (!ds.isEmpty) := rfl
@[simp] theorem tru_non : tru .non = some false := rfl
@[simp] theorem seqOf_lst : seqOf (.lst ds) = some ds := rfl
@[simp] theorem seqOf_tup : seqOf (.tup ds) = some ds := rfl
@[simp] theorem seqOf_str : seqOf (.str x) = some (chars x) := rfl
@[simp] theorem seqOf_fz : seqOf (.fz ds) = some ds := rfl
@[simp] theorem tyD_non : tyD .non = some (.b "NoneType") := rfl
@[simp] theorem tyD_bl {c : Bool} : tyD (.bl c) = some (.b "bool") := rfl
@[simp] theorem tyD_int : tyD (.int i) = some (.b "int") := rfl
@[simp] theorem tyD_str : tyD (.str x) = some (.b "str") := rfl
@[simp] theorem tyD_lst : tyD (.lst ds) = some (.b "list") := rfl
@[simp] theorem tyD_tup : tyD (.tup ds) = some (.b "tuple") := rfl
@[simp] theorem tyD_obj {c : Nat} {ns : List Nat} : tyD (.obj c ns ds) = some (.c c) := rfl
end
/-! ### isinstance -/
section
variable {tb : List (Ty × Ty × Bool)} {cs : List Nat} {i : Int} {x u : Str} {c : Nat} {ds es : List D} {d : D} {t : Ty}
@[simp] theorem isi1_self : isi1 tb t t = some true := by unfold isi1; rw [if_pos rfl]
def isiK (tb : List (Ty × Ty × Bool)) (t : Ty) : D → Option PV
  | .tup cs => (match clDs cs with
    | some us => (isiAny tb t us).map fun b => .val (.bl b)
    | none => none)
  | c => (match clD c with
    | some u => (isi1 tb t u).map fun b => .val (.bl b)
    | none => none)
theorem kIsi_ty {d c : D} {t : Ty} (h : tyD d = some t) : kIsi tb [d, c] = isiK tb t c := by
  cases c <;> simp only [kIsi, isiK, h, clD] <;> (try rfl)
  cases clDs _ <;> rfl
@[simp] theorem isi_non : kIsiC tb cs [.non, d] = isiK tb (.b "NoneType") d := kIsi_ty rfl
@[simp] theorem isi_bl {b : Bool} : kIsiC tb cs [.bl b, d] = isiK tb (.b "bool") d := kIsi_ty rfl
@[simp] theorem isi_int : kIsiC tb cs [.int i, d] = isiK tb (.b "int") d := kIsi_ty rfl
@[simp] theorem isi_str : kIsiC tb cs [.str x, d] = isiK tb (.b "str") d := kIsi_ty rfl
@[simp] theorem isi_lst : kIsiC tb cs [.lst ds, d] = isiK tb (.b "list") d := kIsi_ty rfl
@[simp] theorem isi_tup : kIsiC tb cs [.tup ds, d] = isiK tb (.b "tuple") d := kIsi_ty rfl
@[simp] theorem isi_obj {ns : List Nat} : kIsiC tb cs [.obj c ns ds, d] = if cs.contains c then isiK tb (.c c) d else none := by
  unfold kIsiC; dsimp only; rw [kIsi_ty rfl]
@[simp] theorem isiK_ty {n : String} : isiK tb t (.ty n) = (isi1 tb t (.b n)).map fun b => .val (.bl b) := rfl
@[simp] theorem isiK_st : isiK tb t (.st c) = (isi1 tb t (.c c)).map fun b => .val (.bl b) := rfl
@[simp] theorem isiK_tup : isiK tb t (.tup ds) = match clDs ds with
    | some us => (isiAny tb t us).map fun b => .val (.bl b)
    | none => none := rfl
@[simp] theorem kIsE_ty {n : String} : kIsE tb c (.ty n) = isi1 tb (.c c) (.b n) := rfl
@[simp] theorem kIsE_st {m : Nat} : kIsE tb c (.st m) = isi1 tb (.c c) (.c m) := rfl
@[simp] theorem kIsE_tup : kIsE tb c (.tup ds) = match clDs ds with
    | some us => isiAny tb (.c c) us
    | none => none := rfl
@[simp] theorem clDs_nil : clDs [] = some [] := rfl
@[simp] theorem clDs_st {m : Nat} : clDs (.st m :: ds) = (clDs ds).map (.c m :: ·) := by
  show (match clD (.st m), clDs ds with | some t, some ts => some (t :: ts) | _, _ => none) = _
  cases clDs ds <;> rfl
@[simp] theorem clDs_ty {m : String} : clDs (.ty m :: ds) = (clDs ds).map (.b m :: ·) := by
  show (match clD (.ty m), clDs ds with | some t, some ts => some (t :: ts) | _, _ => none) = _
  cases clDs ds <;> rfl
@[simp] theorem isiAny_nil : isiAny tb t [] = some false := rfl
@[simp] theorem isiAny_cons {u : Ty} {us : List Ty} : isiAny tb t (u :: us) = match isi1 tb t u with
    | some true => some true
    | some false => isiAny tb t us
    | none => none := rfl
@[simp] theorem kEq_bl {a b : Bool} : kEq (.bl a) (.bl b) = some (.val (.bl (a == b))) := by
  unfold kEq; simp [toPy, PyData.plain, PyData.depth, PyData.eqv]
@[simp] theorem kEq_str {a b : Str} : kEq (.str a) (.str b) = some (.val (.bl (a == b))) := by
  unfold kEq; simp [toPy, PyData.plain, PyData.depth, PyData.eqv]
end
/-! ### loops -/
theorem fLoop_inv {g : GF} {b : SF} {I : List D → List Sl → Prop} (step : ∀ d ds G, I (d :: ds) G → ∃ G1 c G2, g d G = some G1 ∧ b G1 = .ok c G2 ∧ (c = .nx ∨ c = .ct) ∧ I ds G2) : ∀ (ds : List D) (G : List Sl), I ds G → ∃ G', fLoop g b ds G = .ok .nx G' ∧ I [] G'
  | [], G, h => ⟨G, rfl, h⟩
  | d :: ds, G, h => by
    obtain ⟨G1, c, G2, h1, h2, h3, h4⟩ := step d ds G h
    obtain ⟨G', h5, h6⟩ := fLoop_inv step ds G2 h4
    refine ⟨G', ?_, h6⟩
    rw [fLoop_cons, h1]
    dsimp only
    rw [h2]
    rcases h3 with rfl | rfl <;> exact h5
/-- by the number of the turn -/
theorem fLoop_ix {g : GF} {b : SF} {ds : List D} {G : List Sl} (I : Nat → List Sl → Prop) (h0 : I 0 G) (step : ∀ (i : Nat) (d : D) (G : List Sl), ds[i]? = some d → I i G → ∃ G1 c G2, g d G = some G1 ∧ b G1 = .ok c G2 ∧ (c = .nx ∨ c = .ct) ∧ I (i + 1) G2) : ∃ G', fLoop g b ds G = .ok .nx G' ∧ I ds.length G' := by
  obtain ⟨G', h1, h2⟩ := fLoop_inv (g := g) (b := b) (I := fun es G => ∃ i, i ≤ ds.length ∧ es = ds.drop i ∧ I i G) (fun d es G ⟨i, hi, he, h⟩ => by
    have hlt : i < ds.length := by
      rcases Nat.lt_or_ge i ds.length with h | h
      · exact h
      · rw [List.drop_eq_nil_of_le h] at he; cases he
    rw [List.drop_eq_getElem_cons hlt] at he
    injection he with e1 e2
    obtain ⟨G1, c, G2, k1, k2, k3, k4⟩ := step i d G (by rw [List.getElem?_eq_getElem hlt, e1]) h
    exact ⟨G1, c, G2, k1, k2, k3, i + 1, hlt, e2, k4⟩) ds G ⟨0, Nat.zero_le _, rfl, h0⟩
  obtain ⟨i, hi, he, h⟩ := h2
  have : i = ds.length := by
    have := congrArg List.length he
    simp at this; omega
  subst this
  exact ⟨G', h1, h⟩
theorem rangeD_get {n i : Nat} {lo : Int} {d : D} (h : (rangeD lo n)[i]? = some d) : i < n ∧ d = .int (lo + i) := by
  unfold rangeD at h
  rw [List.getElem?_map] at h
  have hi : i < n := by
    rcases Nat.lt_or_ge i n with q | q
    · exact q
    · rw [List.getElem?_eq_none (by simpa using q)] at h; cases h
  rw [List.getElem?_range hi] at h
  cases h
  exact ⟨hi, rfl⟩
@[simp] theorem rangeD_len {lo : Int} {n : Nat} : (rangeD lo n).length = n := by simp [rangeD]
/-- plain data of a depth -/
def plD : Nat → D → Bool
  | _, .non => true
  | _, .bl _ => true
  | _, .int _ => true
  | _, .str _ => true
  | n + 1, .lst ds => decide (ds.length < 1000000) && ds.all (plD n)
  | n + 1, .tup ds => decide (ds.length < 1000000) && ds.all (plD n)
  | _, _ => false
def SlD (s : Sl) (d : D) : Prop := s = .imm d ∨ s = .bor d
end PD

/-! PD15: operators of own classes -/
namespace PD
open PySem PySem.Spec PySem.SeqAt L2 L2H

section
variable {M : Model} {prog : Program} {w : World} {A : Around} {E : Value → Shared → Prop} {s : Shared} {K : PySem.W.Frag} {x C : Addr} {ox : Obj} {od : Option Obj} {name : Str} {id : String}
theorem sl_gt : Slot "object" "__gt__" "object.__gt__" := .of (owner := "object") (n := "__gt__") (by rw [typeLookup_type, builtinLookup_eq_fast]; kernel_rfl) (by decide +kernel) (by decide +kernel) (by decide +kernel)
    (by first | exact .inl (by decide +kernel) | exact .inr (by decide +kernel)) (by rw [isSubtype_type]; kernel_rfl)
theorem sl_ge : Slot "object" "__ge__" "object.__ge__" := .of (owner := "object") (n := "__ge__") (by rw [typeLookup_type, builtinLookup_eq_fast]; kernel_rfl) (by decide +kernel) (by decide +kernel) (by decide +kernel)
    (by first | exact .inl (by decide +kernel) | exact .inr (by decide +kernel)) (by rw [isSubtype_type]; kernel_rfl)
theorem en_gt : entryFor table "object.__gt__" = some Builtin.«object.__gt__» := entryFor_of_tree (by kernel_rfl)
theorem en_ge : entryFor table "object.__ge__" = some Builtin.«object.__ge__» := entryFor_of_tree (by kernel_rfl)
theorem ki_gt : builtinKind "object.__gt__" = some .slot := by decide +kernel
theorem ki_ge : builtinKind "object.__ge__" = some .slot := by decide +kernel
theorem sp_gt : splitId "object.__gt__" = some ("object", "__gt__") := by decide +kernel
theorem sp_ge : splitId "object.__ge__" = some ("object", "__ge__") := by decide +kernel
theorem ar_gt (a b : Value) : argsOk "object.__gt__" ⟨[a, b], []⟩ := by unfold argsOk; kernel_rfl
theorem ar_ge (a b : Value) : argsOk "object.__ge__" ⟨[a, b], []⟩ := by unfold argsOk; kernel_rfl
theorem bo_gt {a b : Value} {Q : Fin → Shared → Prop} (hq : Q (.done (.ret .notImplemented)) s) : wpAny M A (Builtin.«object.__gt__» ⟨[a, b], []⟩) Q E s := by
  refine wpAny_of_eq (a := (.done (.ret .notImplemented))) ?_ hq
  with_unfolding_all rfl
theorem bo_ge {a b : Value} {Q : Fin → Shared → Prop} (hq : Q (.done (.ret .notImplemented)) s) : wpAny M A (Builtin.«object.__ge__» ⟨[a, b], []⟩) Q E s := by
  refine wpAny_of_eq (a := (.done (.ret .notImplemented))) ?_ hq
  with_unfolding_all rfl
/-- what a class takes from object -/
theorem ifB {args : List Value} {Q : Option Value → Shared → Prop} (S : Slot "object" name id) (X : K.In s.heap) (I : PySem.W.InstAt s.heap x ox C od) (hs : PySem.W.findIn K (.ref C) name = some (some (.builtin id)))
    (h : wpAny M A (call (.builtin id) (.ref x :: args)) (fun v => Q (some v)) E s) : wpAny M A (callSpecialIfBound? (.ref x) name args) Q E s := by
  simp only [callSpecialIfBound?, bindSpecialIfBound?]
  refine wpAny_holding (wpAny_bind (wpAny_bind (wpAny_bind (I.type.here ((PySem.W.looks_findIn X hs).here ?_)))))
  refine wpAny_bind (wpAny_askSetting (wpAny_ite ?_))
  have fin : wpAny M A (call (.builtin id) ([.ref x] ++ args) >>= fun v => pure (some v)) Q E s := wpAny_bind (wpAny_mono h (fun v s' h' => wpAny_pure h') fun _ _ h' => h')
  split
  · exact wpAny_bind (wpAny_of_eq (S.bind _) (wpAny_pure (by exact fin)))
  · exact wpAny_tryCatch (wpAny_bind (wpAny_of_eq (S.bind _) (wpAny_pure (by exact fin))))
theorem call_gt {b : Value} {Q : Value → Shared → Prop} (X : K.In s.heap) (I : PySem.W.InstAt s.heap x ox C od) (hm : PySem.W.mroIn K C (.type "object") = some true) (hq : Q .notImplemented s) :
    wpAny (model prog w) A (call (.builtin "object.__gt__") [.ref x, b]) Q E s :=
  wpAny_call (codeAny_call_builtin sl_gt.plain en_gt (PySem.W.check_slot ki_gt sp_gt (I.type.andThen (PySem.W.looks_mroIn X hm)) (ar_gt _ _) (bo_gt hq)))
theorem call_ge {b : Value} {Q : Value → Shared → Prop} (X : K.In s.heap) (I : PySem.W.InstAt s.heap x ox C od) (hm : PySem.W.mroIn K C (.type "object") = some true) (hq : Q .notImplemented s) :
    wpAny (model prog w) A (call (.builtin "object.__ge__") [.ref x, b]) Q E s :=
  wpAny_call (codeAny_call_builtin sl_ge.plain en_ge (PySem.W.check_slot ki_ge sp_ge (I.type.andThen (PySem.W.looks_mroIn X hm)) (ar_ge _ _) (bo_ge hq)))
end

/-! ### two instances of one class -/
def obC (c : Nat) (p : PV) (G : List Sl) : Bool := match peek p G with
  | some (.obj c' _ _) => decide (c' = c)
  | _ => false
def negR (r : R PV) : R PV := match r with
  | .ok (.val (.bl b)) G => .ok (.val (.bl (!b))) G
  | .ex c ns ds G => .ex c ns ds G
  | _ => .bad
def owFin (sw ng : Bool) (c : Nat) (m : MF) (mds : List Md) (a b : PV) (G : List Sl) : R PV :=
  if obC c a G = true ∧ obC c b G = true then (if ng = true then negR (runC m mds (if sw = true then [b, a] else [a, b]) G) else runC m mds (if sw = true then [b, a] else [a, b]) G) else .bad
def cOw (sw ng : Bool) (c : Nat) (m : MF) (mds : List Md) (fa fb : EF) : EF := fun G => (fa G).bind fun a G1 => (fb G1).bind fun b G2 => owFin sw ng c m mds a b G2
def ngK (ng : Bool) (Q : VK) : VK := fun v H => if ng = true then ∃ k, v = .bl k ∧ Q (.bl (!k)) H else Q v H
section
variable {e : Ev} {W : WX} {P : Pre} {σ : L2.St} {G G1 G2 : List Sl} {H H1 H2 : Hp} {Z : Zo} {X : Cx} {pos : Pos} {a b : Expr} {fa fb : EF} {c n : Nat} {m : MF} {mds : List Md} {f : Addr}
theorem obC_ok {p : PV} {v : V} (S : Sat e P G σ H) (t : Tmp e P σ G H p v) (h : obC c p G = true) : ∃ q dx fs, v = .ref q ∧ H q = some (.ins (e.ga c) dx fs) := by
  unfold obC at h
  split at h
  · rename_i c' ns ds q
    obtain ⟨a, dx, gs, rfl, h1, _⟩ := (peek_ok S t q).obj
    have := of_decide_eq_true h
    subst this
    exact ⟨a, dx, gs, rfl, h1⟩
  · cases h
def InsR (e : Ev) (c : Nat) (H : Hp) (v : V) : Prop := ∃ q dx fs, v = .ref q ∧ H q = some (.ins (e.ga c) dx fs)
theorem tD_ow {sw ng : Bool} {Q : VK} (hn : mds.length = n) (h : tD e W (cOw sw ng c m mds fa fb) σ H Q) : tD e W fa σ H fun x H1 => tD e W fb σ H1 fun y H2 => InsR e c H2 x ∧ InsR e c H2 y ∧ spD e n m (if sw = true then [y, x] else [x, y]) H2 (ngK ng Q) (WE W σ) := by
  refine tD_two h fun P G Z0 H0 H a b v u S ta tb st q => ?_
  unfold owFin at q
  split at q
  · rename_i hob
    refine ⟨obC_ok S ta hob.1, obC_ok S tb hob.2, ?_⟩
    have tt : Tmps e P σ G H (if sw = true then [b, a] else [a, b]) (if sw = true then [u, v] else [v, u]) := by
      cases sw
      · exact ⟨_, _, rfl, ta, _, _, rfl, tb, rfl⟩
      · exact ⟨_, _, rfl, tb, _, _, rfl, ta, rfl⟩
    refine runC_ok S tt st hn ?_
    cases ng
    · exact q.mono (fun _ _ k v H2 r => k v H2 r) fun _ _ s => s
    · rw [if_pos rfl] at q
      cases hr : runC m mds (if sw = true then [b, a] else [a, b]) G with
      | bad => rw [hr] at q; exact q.elim
      | ex c ns ds G2 => rw [hr] at q; exact q
      | ok pv G2 =>
        rw [hr] at q
        unfold negR at q
        split at q
        · rename_i e1; cases e1
          intro v H2 r
          obtain ⟨S2, st2, rfl⟩ := r
          exact ⟨_, rfl, q _ H2 ⟨S2, st2, rfl⟩⟩
        · rename_i e1; cases e1
        · exact q.elim
  · exact q.elim
/-- two values, by the slots' state -/
def OpO (X : Cx) (f : Value → Value → Sem Value) (R : L2.St → V → V → Hp → VK → Prop) : Prop :=
  ∀ (pins : List (Addr × Obj)) (s : Shared) (σ : L2.St) (H : Hp) (x y : V) (v u : Value) (Q : VK), Inv X pins σ H s → RelV x v → RelV y u → R σ x y H Q → wpAny (model X.prog X.w) X.A (f v u) (EP X pins σ Q) X.xe s
def rOw (e : Ev) (W : WX) (sw ng : Bool) (c n : Nat) (m : MF) : L2.St → V → V → Hp → VK → Prop := fun σ x y H Q => InsR e c H x ∧ InsR e c H y ∧ spD e n m (if sw = true then [y, x] else [x, y]) H (ngK ng Q) (WE W σ)
theorem de_owC {sw ng : Bool} {op : CmpOp} (ho : OpO X (compareOp op) (rOw e W sw ng c n m)) (hn : mds.length = n) (ha : PE X a (tD e W fa)) (hb : PE X b (tD e W fb)) (hm : behindInMarks op b = false) : PE X (.Compare a [op] [b] pos) (tD e W (cOw sw ng c m mds fa fb)) :=
  ⟨fun pins s σ H Q I h => wpAny_Compare1 (binT ha hb I (tD_ow hn h) fun v u s2 x y H2 I2 rx ry q => ho pins s2 σ H2 x y v u Q I2 rx ry q) hm⟩
theorem de_owB {sw ng : Bool} {op : Operator} (ho : OpO X (binaryOp op) (rOw e W sw ng c n m)) (hn : mds.length = n) (ha : PE X a (tD e W fa)) (hb : PE X b (tD e W fb)) : PE X (.BinOp a op b pos) (tD e W (cOw sw ng c m mds fa fb)) :=
  ⟨fun pins s σ H Q I h => wpAny_BinOp (binT ha hb I (tD_ow hn h) fun v u s2 x y H2 I2 rx ry q => ho pins s2 σ H2 x y v u Q I2 rx ry q)⟩
/-- the callee runs one unit below -/
def Clb1 (X : Cx) (W : WX) (f : Addr) (sp : Sp) : Prop :=
  ∀ (pins : List (Addr × Obj)) (s : Shared) (σ : L2.St) (H : Hp) (vs : List V) (us : List Value) (Q : VK), Inv X pins σ H s → Vals vs us → sp vs H Q (WE W σ) → wpAny (model X.prog X.w) X.A.in1 (call (.ref f) us) (EP X pins σ Q) X.xe s
theorem clb1_of {k : Nat} {fd : FuncData} {ps : List Str} {sp : Sp} (F : FnOk X.prog X.w X.K X.mg X.base (L2.CX X.prog X.w) k f fd ps sp) (hr : Room (k + 1) X.A) (hb : Binds X.K fd ps []) (tk : Takes X W) : Clb1 X W f sp := by
  intro pins s σ H vs us Q I r h
  have hl : us.length = ps.length := by rw [← r.length]; exact F.len _ _ _ _ h
  have b := hb s us I.kIn (by rw [List.append_nil]; exact hl)
  rw [List.append_nil] at b
  refine wpAny_call (codeAny_mono (F.run X.A.in1 X.stack s H ⟨us, []⟩ us vs Q (WE W σ) hr.in1 I.env0.in1 b r h) fun r s' hq => ?_)
  cases r with
  | error e => exact passAt tk σ pins H s e s' I hq
  | ok fl =>
    cases fl with
    | ret u => exact I.after hq
    | next => exact False.elim hq
    | brk => exact False.elim hq
    | cont => exact False.elim hq
theorem clb1 {k : Nat} {ps : List Str} (B : Bd e X W) (q : Q_ X.prog X.w e X.mg X.base k f ps n m) (hr : Room (k + 1) X.A) : Clb1 X W f (spD e n m) := by
  obtain ⟨fd, F, b, _⟩ := q
  have hK := B.hK
  exact clb1_of (hK ▸ F) hr (hK ▸ b) B.tk
theorem ep_back {pins : List (Addr × Obj)} {Q : VK} {v : Value} {s : Shared} (h : EP X pins σ Q v s) : PySem.W.CmpBack (EP X pins σ Q) v s := by
  have hn : v ≠ .notImplemented := by
    obtain ⟨x, H', I, r, q⟩ := h
    rintro rfl
    cases x <;> first
      | (cases r; done)
      | (obtain ⟨_, z⟩ := r; cases z)
  unfold PySem.W.CmpBack
  cases v <;> first
    | exact h
    | exact absurd rfl hn
theorem inst_of {pins : List (Addr × Obj)} {s : Shared} {p C dx : Addr} {fs : List (Str × V)} (I : Inv X pins σ H s) (h : H p = some (.ins C dx fs)) : ∃ ox od, PySem.W.InstAt s.heap p ox C od := by
  obtain ⟨mA, O, _⟩ := ins_get I.hok h
  obtain ⟨od, J, _⟩ := O.look
  exact ⟨_, _, J⟩
/-- x op y: the own def -/
theorem ow_cmp {op : CmpOp} (hop : ∀ a b, compareOp op a b = richCompare op a b) (B : Bd e X W) (hm : Meth e.K (e.ga c) (cmpInfo op).2.1 f) (cb : Clb X W f (spD e n m)) : OpO X (compareOp op) (rOw e W false false c n m) := by
  intro pins s σ H x y v u Q I rx ry h
  obtain ⟨⟨p, dx, fs, rfl, hx⟩, ⟨q, dy, gs, rfl, hy⟩, h⟩ := h
  obtain rfl : v = Value.ref p := rx
  obtain rfl : u = Value.ref q := ry
  obtain ⟨ox, od, J⟩ := inst_of I hx
  obtain ⟨oy, od', J'⟩ := inst_of I hy
  obtain ⟨m', hF⟩ := I.fr
  have hK := B.hK
  rw [hop]
  refine PySem.W.cmp_K (op := op) (tb := .ref (e.ga c)) (by have := B.hu; omega) hF I.ok.mod.kin J J'.type (by unfold PySem.W.notFirst; simp) (hK ▸ hm.at_) (hK ▸ hm.fn) ?_
  exact wpAny_mono (cb pins s σ H [.ref p, .ref q] [.ref p, .ref q] Q I (.cons rfl (.cons rfl .nil)) h) (fun w s' z => ep_back z) fun _ _ x => x
theorem ow_eq (B : Bd e X W) (hm : Meth e.K (e.ga c) "__eq__" f) (cb : Clb X W f (spD e n m)) : OpO X (compareOp .Eq) (rOw e W false false c n m) := ow_cmp (op := .Eq) (fun _ _ => rfl) B hm cb
theorem ow_lt (B : Bd e X W) (hm : Meth e.K (e.ga c) "__lt__" f) (cb : Clb X W f (spD e n m)) : OpO X (compareOp .Lt) (rOw e W false false c n m) := ow_cmp (op := .Lt) (fun _ _ => rfl) B hm cb
theorem ow_le (B : Bd e X W) (hm : Meth e.K (e.ga c) "__le__" f) (cb : Clb X W f (spD e n m)) : OpO X (compareOp .LtE) (rOw e W false false c n m) := ow_cmp (op := .LtE) (fun _ _ => rfl) B hm cb
end

section
variable {e : Ev} {W : WX} {P : Pre} {σ : L2.St} {H : Hp} {X : Cx} {c n : Nat} {m : MF} {f : Addr}
/-- a > b by b's __lt__ -/
theorem rc_refl {prog : Program} {w : World} {A : Around} {E : Value → Shared → Prop} {s : Shared} {K : PySem.W.Frag} {x y C : Addr} {ox oy : Obj} {od od' : Option Obj} {op : CmpOp} {Q : Value → Shared → Prop} (hop : op ≠ .Eq ∧ op ≠ .NotEq) (hu : A.units < cLine) (X : K.In s.heap) (I : PySem.W.InstAt s.heap x ox C od) (J : PySem.W.InstAt s.heap y oy C od')
    (ho : wpAny (model prog w) A (tryCompare (.ref x) (cmpInfo op).2.1 (.ref y)) (fun r s' => r = none ∧ s' = s) E s) (hs : PySem.W.findIn K (.ref C) (cmpInfo op).2.2 = some (some (.ref f))) (hf : PySem.W.isFn K (.ref f) = true)
    (h : wpAny (model prog w) A (call (.ref f) [.ref y, .ref x]) (PySem.W.CmpBack Q) E s) : wpAny (model prog w) A (richCompare op (.ref x) (.ref y)) Q E s := by
  have two : wpAny (model prog w) A (tryCompare (.ref y) (cmpInfo op).2.2 (.ref x)) (fun r s' => ∃ v, r = some v ∧ Q v s') E s := by
    unfold tryCompare
    refine wpAny_bind (PySem.W.ifBound_K X J hs hf (wpAny_mono h (fun v s' hv => ?_) fun _ _ e => e))
    cases v <;> first | exact hv.elim | exact wpAny_pure ⟨_, rfl, hv⟩
  unfold richCompare
  simp only [oneThing_ref]
  refine wpAny_holding (wpAny_bind (wpAny_cRoomFor hu ?_))
  refine wpAny_bind (I.type.here (wpAny_bind (J.type.here ?_)))
  rw [show (Value.ref C != Value.ref C) = false from by simp]
  simp only [Bool.false_eq_true, if_false]
  refine wpAny_bind (wpAny_pure ?_)
  simp only [Bool.false_eq_true, if_false, Bool.not_false, if_true]
  refine wpAny_bind (wpAny_mono ho (fun r s' z => ?_) fun _ _ e => e)
  obtain ⟨rfl, rfl⟩ := z
  refine wpAny_bind (wpAny_mono two (fun r s' z => ?_) fun _ _ e => e)
  obtain ⟨v, rfl, hq⟩ := z
  exact wpAny_pure hq
theorem ow_gt (B : Bd e X W) (ic : IsC e c) (hg : PySem.W.findIn e.K (.ref (e.ga c)) "__gt__" = some (some (.builtin "object.__gt__"))) (hm : Meth e.K (e.ga c) "__lt__" f) (cb : Clb X W f (spD e n m)) : OpO X (compareOp .Gt) (rOw e W true false c n m) := by
  intro pins s σ H x y v u Q I rx ry h
  obtain ⟨⟨p, dx, fs, rfl, hx⟩, ⟨q, dy, gs, rfl, hy⟩, h⟩ := h
  obtain rfl : v = Value.ref p := rx
  obtain rfl : u = Value.ref q := ry
  obtain ⟨ox, od, J⟩ := inst_of I hx
  obtain ⟨oy, od', J'⟩ := inst_of I hy
  have hK := B.hK
  have KI := I.kIn
  rw [hK] at KI
  refine rc_refl (op := .Gt) ⟨nofun, nofun⟩ (by have := B.hu; omega) KI J J' ?_ hm.at_ hm.fn ?_
  · unfold tryCompare
    exact wpAny_bind (ifB sl_gt KI J hg (call_gt KI J ic.hm (wpAny_pure ⟨rfl, rfl⟩)))
  · exact wpAny_mono (cb pins s σ H [.ref q, .ref p] [.ref q, .ref p] Q I (.cons rfl (.cons rfl .nil)) h) (fun w s' z => ep_back z) fun _ _ x => x
theorem ow_ge (B : Bd e X W) (ic : IsC e c) (hg : PySem.W.findIn e.K (.ref (e.ga c)) "__ge__" = some (some (.builtin "object.__ge__"))) (hm : Meth e.K (e.ga c) "__le__" f) (cb : Clb X W f (spD e n m)) : OpO X (compareOp .GtE) (rOw e W true false c n m) := by
  intro pins s σ H x y v u Q I rx ry h
  obtain ⟨⟨p, dx, fs, rfl, hx⟩, ⟨q, dy, gs, rfl, hy⟩, h⟩ := h
  obtain rfl : v = Value.ref p := rx
  obtain rfl : u = Value.ref q := ry
  obtain ⟨ox, od, J⟩ := inst_of I hx
  obtain ⟨oy, od', J'⟩ := inst_of I hy
  have hK := B.hK
  have KI := I.kIn
  rw [hK] at KI
  refine rc_refl (op := .GtE) ⟨nofun, nofun⟩ (by have := B.hu; omega) KI J J' ?_ hm.at_ hm.fn ?_
  · unfold tryCompare
    exact wpAny_bind (ifB sl_ge KI J hg (call_ge KI J ic.hm (wpAny_pure ⟨rfl, rfl⟩)))
  · exact wpAny_mono (cb pins s σ H [.ref q, .ref p] [.ref q, .ref p] Q I (.cons rfl (.cons rfl .nil)) h) (fun w s' z => ep_back z) fun _ _ x => x
/-- != by object's __ne__ and the own __eq__ -/
theorem bo_ne {M : Model} {A : Around} {E : Value → Shared → Prop} {s : Shared} {K : PySem.W.Frag} {x y C : Addr} {ox : Obj} {od : Option Obj} {Q : Fin → Shared → Prop} (hu : A.units < cLine) (X : K.In s.heap) (I : PySem.W.InstAt s.heap x ox C od) (hs : PySem.W.findIn K (.ref C) "__eq__" = some (some (.ref f))) (hf : PySem.W.isFn K (.ref f) = true)
    (h : wpAny M A (call (.ref f) [.ref x, .ref y]) (fun v s' => ∃ b, v = .bool b ∧ Q (.done (.ret (.bool (!b)))) s') E s) : wpAny M A (Builtin.«object.__ne__» ⟨[.ref x, .ref y], []⟩) Q E s := by
  unfold Builtin.«object.__ne__»
  repeat (first
    | with_reducible refine wpAny_cRoomFor hu ?_
    | (refine wpAny_bind (m := callSpecialIfBound? (.ref x) (Str.ofString "__eq__") [.ref y])
        (PySem.W.ifBound_K X I hs hf (wpAny_mono h (fun r s' hr => by
          obtain ⟨b, rfl, hq⟩ := hr
          repeat (first | exact hq | exact wpAny_pure hq | exact wpAny_truthy_bool hq | (refine wpAny_bind (m := truthy (.bool _)) (wpAny_truthy_bool ?_)) | wp_step)) fun _ _ e => e)))
    | wp_step)
theorem ow_ne (B : Bd e X W) (ic : IsC e c) (hg : PySem.W.findIn e.K (.ref (e.ga c)) "__ne__" = some (some (.builtin "object.__ne__"))) (hm : Meth e.K (e.ga c) "__eq__" f) (cb : Clb1 X W f (spD e n m)) : OpO X (compareOp .NotEq) (rOw e W false true c n m) := by
  intro pins s σ H x y v u Q I rx ry h
  obtain ⟨⟨p, dx, fs, rfl, hx⟩, ⟨q, dy, gs, rfl, hy⟩, h⟩ := h
  obtain rfl : v = Value.ref p := rx
  obtain rfl : u = Value.ref q := ry
  obtain ⟨ox, od, J⟩ := inst_of I hx
  obtain ⟨oy, od', J'⟩ := inst_of I hy
  have hK := B.hK
  have KI := I.kIn
  rw [hK] at KI
  have hu := B.hu
  have one : wpAny (model X.prog X.w) X.A (tryCompare (.ref p) "__ne__" (.ref q)) (fun r s' => ∃ v, r = some v ∧ EP X pins σ Q v s') X.xe s := by
    unfold tryCompare
    refine wpAny_bind (ifB F.cmp_object.ne KI J hg (wpAny_call (codeAny_call_builtin F.cmp_object.ne.plain F.cmpEntry_ne (PySem.W.check_slot F.cmpKind_ne F.cmpSplit_ne (J.type.andThen (PySem.W.looks_mroIn KI ic.hm)) (F.cmpArgs_ne _ _) (bo_ne (by show X.A.units + 1 < cLine; omega) KI J hm.at_ hm.fn ?_)))))
    refine wpAny_mono (cb pins s σ H [.ref p, .ref q] [.ref p, .ref q] _ I (.cons rfl (.cons rfl .nil)) h) (fun w s' z => ?_) fun _ _ x => x
    obtain ⟨z, H', I', r, k, rfl, q⟩ := z
    cases r
    first
      | exact ⟨k, rfl, wpAny_pure ⟨_, rfl, .bl (!k), H', I', rfl, q⟩⟩
      | exact ⟨k, rfl, wpAny_pure (wpAny_pure ⟨_, rfl, .bl (!k), H', I', rfl, q⟩)⟩
      | exact ⟨k, rfl, _, rfl, .bl (!k), H', I', rfl, q⟩
  show wpAny _ _ (richCompare .NotEq (.ref p) (.ref q)) _ _ _
  unfold richCompare
  simp only [oneThing_ref]
  refine wpAny_holding (wpAny_bind (wpAny_cRoomFor (by omega) ?_))
  refine wpAny_bind (J.type.here (wpAny_bind (J'.type.here ?_)))
  rw [show (Value.ref (e.ga c) != Value.ref (e.ga c)) = false from by simp]
  simp only [Bool.false_eq_true, if_false]
  refine wpAny_bind (wpAny_pure ?_)
  simp only [Bool.false_eq_true, if_false, Bool.not_false, if_true]
  refine wpAny_bind (wpAny_mono one (fun r s' z => ?_) fun _ _ e => e)
  obtain ⟨v, rfl, hq⟩ := z
  exact wpAny_pure hq
end
end PD

/-! PD16: list comprehensions -/
namespace PD
open PySem PySem.Spec L2 L2H

def wipeG (G : List Sl) : List Nat → List Sl
  | [] => G
  | v :: vs => (wipeG G vs).set v .no
def resG (G0 : List Sl) (G : List Sl) : List Nat → List Sl
  | [] => G
  | v :: vs => resG G0 (G.set v ((G0[v]?).getD .no)) vs
def plS : Sl → Bool
  | .no => true
  | .imm _ => true
  | _ => false
def okW (G : List Sl) (vs : List Nat) : Bool := vs.Nodup && vs.all fun v => match G[v]? with
  | some s => plS s
  | none => false
def lcGo (vs : List Nat) (g : GF) (t : TF) (f : EF) : List D → List D → List Sl → R (List D)
  | [], acc, G => .ok acc G
  | d :: ds, acc, G => match g d (wipeG G vs) with
    | none => .bad
    | some G1 => (noEx (t G1)).bind fun b G2 => if b = true then (noEx (f G2)).bind fun pv G3 => (match esc pv G3 with
        | some (x, G4) => if acc.length < 1000000 then lcGo vs g t f ds (acc ++ [x]) G4 else .bad
        | none => .bad) else lcGo vs g t f ds acc G2
def cLC (src : F (List D)) (vs : List Nat) (g : GF) (t : TF) (f : EF) : EF := fun G => (src G).bind fun ds G1 => if okW G1 vs = true then (lcGo vs g t f ds [] G1).bind fun xs G2 => .ok (.fr (.lst xs)) (resG G1 (wipeG G2 vs) vs) else .bad
def tYesD : TF := fun G => .ok true G
section
variable {e : Ev} {W : WX} {P : Pre} {σ τ : L2.St} {G G1 G2 : List Sl} {H H1 H2 : Hp} {Z : Zo} {X : Cx}
theorem Sat.wiped (S : Sat e P G σ H) : ∀ vs : List Nat, Sat e P (wipeG G vs) (wipe σ vs) H ∧ ∀ a, Zn P (wipeG G vs) (wipe σ vs) a → Zn P G σ a
  | [] => ⟨S, fun _ z => z⟩
  | v :: vs => by
    obtain ⟨S1, z1⟩ := S.wiped vs
    obtain ⟨S2, z2⟩ := S1.gone (i := v)
    exact ⟨S2, fun a z => z1 a (z2 a z)⟩
/-- one name comes back -/
theorem Sat.back1 {v : Nat} {s : Sl} (S : Sat e P G (τ.set v none) H) (hv : v < τ.length) (hs : s = .no ∨ ∃ d x, s = .imm d ∧ τ[v]? = some (some x) ∧ Rp e (Zn P G (τ.set v none)) H d x) :
    Sat e P (G.set v s) τ H ∧ ∀ a, Zn P (G.set v s) τ a ↔ Zn P G (τ.set v none) a := by
  have hl : G.length = τ.length := by simpa using S.len
  have noO : ∀ d, G[v]? ≠ some (.own d) := fun d z => by
    obtain ⟨a, h, _⟩ := S.slot _ _ z
    rw [List.getElem?_set_self hv] at h; cases h
  have nO : ∀ d, s ≠ .own d := fun d z => by rcases hs with rfl | ⟨_, _, rfl, _⟩ <;> cases z
  have nL : ∀ d, s ≠ .lnd d := fun d z => by rcases hs with rfl | ⟨_, _, rfl, _⟩ <;> cases z
  have hz : ∀ a, Zn P (G.set v s) τ a ↔ Zn P G (τ.set v none) a := fun a => by
    constructor
    · rintro (z | ⟨j, d, h1, h2⟩)
      · exact .inl z
      · rcases set_get h1 with ⟨_, h, _⟩ | ⟨hj, h1⟩
        · exact absurd h.symm (nO d)
        · exact .inr ⟨j, d, h1, by rw [List.getElem?_set_ne hj]; exact h2⟩
    · rintro (z | ⟨j, d, h1, h2⟩)
      · exact .inl z
      · have hj : v ≠ j := fun z => by subst z; exact noO d h1
        rw [List.getElem?_set_ne hj] at h2
        exact .inr ⟨j, d, by rw [List.getElem?_set_ne hj]; exact h1, h2⟩
  refine ⟨⟨by simpa using hl, fun j u h => ?_, fun j k d1 d2 b h1 h2 h3 h4 => ?_, fun j k d1 d2 b h1 h2 h3 h4 => ?_, S.keep, S.live, S.z0, S.wz⟩, hz⟩
  · rcases set_get h with ⟨rfl, rfl, _⟩ | ⟨hj, h⟩
    · rcases hs with rfl | ⟨d, x, rfl, h1, h2⟩
      · trivial
      · exact ⟨x, h1, h2.zone fun a z => (hz a).mp z⟩
    · have q := (S.slot j u h).zone fun a z => (hz a).mp z
      cases u <;> simpa only [SlOk, List.getElem?_set_ne hj] using q
  · rcases set_get h1 with ⟨_, h, _⟩ | ⟨hj, h1⟩
    · exact absurd h.symm (nO d1)
    · rcases set_get h2 with ⟨_, h, _⟩ | ⟨hk, h2⟩
      · exact absurd h.symm (nO d2)
      · exact S.dist j k d1 d2 b h1 h2 (by rw [List.getElem?_set_ne hj]; exact h3) (by rw [List.getElem?_set_ne hk]; exact h4)
  · rcases set_get h1 with ⟨_, h, _⟩ | ⟨hj, h1⟩
    · exact absurd h.symm (nL d1)
    · rcases set_get h2 with ⟨_, h, _⟩ | ⟨hk, h2⟩
      · exact absurd h.symm (nL d2)
      · exact S.par j k d1 d2 b h1 h2 (by rw [List.getElem?_set_ne hj]; exact h3) (by rw [List.getElem?_set_ne hk]; exact h4)
/-- what a name's slot held is still true -/
def Held (e : Ev) (Z : Zo) (H : Hp) (σ : L2.St) (v : Nat) (s : Sl) : Prop := s = .no ∨ ∃ d x, s = .imm d ∧ σ[v]? = some (some x) ∧ Rp e Z H d x
theorem wipe_get {v : Nat} : ∀ {vs : List Nat}, v ∉ vs → (wipe σ vs)[v]? = σ[v]?
  | [], _ => rfl
  | u :: vs, h => by
    simp only [List.mem_cons, not_or] at h
    unfold wipe
    rw [List.getElem?_set_ne (Ne.symm h.1), wipe_get h.2]
theorem Sat.back {G0 : List Sl} : ∀ {vs : List Nat} {G : List Sl}, vs.Nodup → (∀ v ∈ vs, v < σ.length) → Sat e P G (wipe σ vs) H → (∀ v ∈ vs, Held e (Zn P G (wipe σ vs)) H σ v ((G0[v]?).getD .no)) →
    Sat e P (resG G0 G vs) σ H ∧ ∀ a, Zn P (resG G0 G vs) σ a ↔ Zn P G (wipe σ vs) a
  | [], _, _, _, S, _ => ⟨S, fun _ => Iff.rfl⟩
  | v :: vs, G, nd, hl, S, hh => by
    obtain ⟨n1, n2⟩ := List.nodup_cons.mp nd
    have e1 : (wipe σ vs)[v]? = σ[v]? := wipe_get n1
    obtain ⟨S1, z1⟩ := Sat.back1 (τ := wipe σ vs) (s := (G0[v]?).getD .no) S (by rw [wipe_length]; exact hl v List.mem_cons_self) (by
      rcases hh v List.mem_cons_self with h | ⟨d, x, h1, h2, h3⟩
      · exact .inl h
      · exact .inr ⟨d, x, h1, by rw [e1]; exact h2, h3⟩)
    obtain ⟨S2, z2⟩ := Sat.back (G0 := G0) n2 (fun u hu => hl u (List.mem_cons_of_mem _ hu)) S1 fun u hu => by
      rcases hh u (List.mem_cons_of_mem _ hu) with h | ⟨d, x, h1, h2, h3⟩
      · exact .inl h
      · exact .inr ⟨d, x, h1, h2, h3.zone fun a z => (z1 a).mp z⟩
    exact ⟨S2, fun a => (z2 a).trans (z1 a)⟩
theorem rps_snoc {d : D} {v : V} : ∀ {ds : List D} {vs : List V}, Rps e Z H ds vs → Rp e Z H d v → Rps e Z H (ds ++ [d]) (vs ++ [v])
  | [], _, h, r => by cases h; exact ⟨_, _, rfl, r, rfl⟩
  | d' :: ds, _, h, r => by
    obtain ⟨w, rest, rfl, h1, h2⟩ := h
    exact ⟨_, _, rfl, h1, rps_snoc h2 r⟩
/-- the new list, while it grows -/
def lcP (P : Pre) (L : Addr) (acc : List V) : Pre := ⟨upd P.H0 L (.lst acc), fun a => P.Z0 a ∨ a = L, P.Wr, P.pv, fun a => P.Xz a ∨ a = L⟩
theorem zn_lc {L : Addr} {acc : List V} {a : Addr} : Zn (lcP P L acc) G σ a ↔ Zn P G σ a ∨ a = L := by
  constructor
  · rintro ((z | z) | z)
    · exact .inl (.inl z)
    · exact .inr z
    · exact .inl (.inr z)
  · rintro ((z | z) | z)
    · exact .inl (.inl z)
    · exact .inr z
    · exact .inl (.inr z)
theorem Sat.lcIn {L : Addr} {acc : List V} (S : Sat e P G σ H) (hL : H L = none) : Sat e (lcP P L acc) G σ (upd H L (.lst acc)) := by
  have st : Step (Zn P G σ) H (Zn (lcP P L acc) G σ) (upd H L (.lst acc)) := step_grow (upd_keeps hL) fun a ha z => by
    rcases zn_lc.mp z with z | z
    · exact z
    · subst z; exact absurd hL ha
  have ne : ∀ {d : D} {a : Addr}, At e (Zn P G σ) H d a → a ≠ L := fun h z => by subst z; exact h.live hL
  have h0 : P.H0 L = none := by
    cases q : P.H0 L with
    | none => rfl
    | some o => exact absurd hL (S.live L (by rw [q]; simp))
  refine ⟨S.len, fun i s h => ?_, S.dist, S.par, fun a o h w => ?_, fun a h => ?_, fun a z => ?_, fun a w => .inl (S.wz a w)⟩
  · have q := S.slot i s h
    cases s with
    | no => trivial
    | imm d => obtain ⟨v, h1, h2⟩ := q; exact ⟨v, h1, Rp.step st _ _ h2⟩
    | own d => obtain ⟨a, h1, h2, h3, h4⟩ := q; exact ⟨a, h1, by rw [show (lcP P L acc).H0 = upd P.H0 L (.lst acc) from rfl, upd_ne (ne h4)]; exact h2, fun z => z.elim h3 (ne h4), h4.step st (upd_ne (ne h4))⟩
    | lnd d => obtain ⟨a, h1, h2, h3, h4, h5⟩ := q; exact ⟨a, h1, h2, h3, .inl h4, h5.step st (upd_ne (ne h5))⟩
    | bor d => obtain ⟨a, h1, h2, h3, h4⟩ := q; exact ⟨a, h1, .inl h2, fun z => z.elim (fun z => h3 (.inl z)) fun z => z.elim (fun z => h3 (.inr z)) (ne h4), h4.step st (upd_ne (ne h4))⟩
    | exn c ns ds => obtain ⟨a, h1, h2⟩ := q; exact ⟨a, h1, h2.step st⟩
  · by_cases ha : a = L
    · subst ha
      rw [show (lcP P a acc).H0 = upd P.H0 a (.lst acc) from rfl, upd_same] at h
      rw [upd_same]; exact h
    · rw [show (lcP P L acc).H0 = upd P.H0 L (.lst acc) from rfl, upd_ne ha] at h
      rw [upd_ne ha]; exact S.keep a o h w
  · by_cases ha : a = L
    · subst ha; rw [upd_same]; simp
    · rw [show (lcP P L acc).H0 = upd P.H0 L (.lst acc) from rfl, upd_ne ha] at h
      rw [upd_ne ha]; exact S.live a h
  · rcases z with z | z
    · by_cases ha : a = L
      · subst ha; rw [show (lcP P a acc).H0 = upd P.H0 a (.lst acc) from rfl, upd_same]; simp
      · rw [show (lcP P L acc).H0 = upd P.H0 L (.lst acc) from rfl, upd_ne ha]; exact S.z0 a z
    · subst z; rw [show (lcP P a acc).H0 = upd P.H0 a (.lst acc) from rfl, upd_same]; simp
theorem lcP_acc {L : Addr} {acc : List V} (S : Sat e (lcP P L acc) G σ H) (hw : ¬ P.Wr L) : H L = some (.lst acc) := S.keep L _ (by rw [show (lcP P L acc).H0 = upd P.H0 L (.lst acc) from rfl, upd_same]) hw
theorem Sat.lcApp {L : Addr} {acc acc' : List V} (S : Sat e (lcP P L acc) G σ H) (hw : ¬ P.Wr L) : Sat e (lcP P L acc') G σ (upd H L (.lst acc')) ∧ Step (Zn (lcP P L acc) G σ) H (Zn (lcP P L acc') G σ) (upd H L (.lst acc')) := by
  have hz : ∀ a, Zn (lcP P L acc') G σ a ↔ Zn (lcP P L acc) G σ a := fun a => zn_lc.trans zn_lc.symm
  have zL : Zn (lcP P L acc) G σ L := zn_lc.mpr (.inr rfl)
  have st : Step (Zn (lcP P L acc) G σ) H (Zn (lcP P L acc') G σ) (upd H L (.lst acc')) := ⟨fun a o h z => by
    have : a ≠ L := fun y => by subst y; exact z zL
    exact ⟨by rw [upd_ne this]; exact h, fun y => z ((hz a).mp y)⟩, fun a h => by
    by_cases ha : a = L
    · subst ha; rw [upd_same]; simp
    · rw [upd_ne ha]; exact h⟩
  have up : ∀ {a : Addr}, a ≠ L → (lcP P L acc').H0 a = (lcP P L acc).H0 a := fun ha => by
    rw [show (lcP P L acc').H0 = upd P.H0 L (.lst acc') from rfl, show (lcP P L acc).H0 = upd P.H0 L (.lst acc) from rfl, upd_ne ha, upd_ne ha]
  refine ⟨⟨S.len, fun i s h => ?_, S.dist, S.par, fun a o h w => ?_, fun a h => ?_, fun a z => ?_, fun a w => .inl ((S.wz a w).elim id fun z => by subst z; exact absurd w hw)⟩, st⟩
  · have q := S.slot i s h
    cases s with
    | no => trivial
    | imm d => obtain ⟨v, h1, h2⟩ := q; exact ⟨v, h1, Rp.step st _ _ h2⟩
    | own d =>
      obtain ⟨a, h1, h2, h3, h4⟩ := q
      have ne : a ≠ L := fun z => h3 (.inr z)
      exact ⟨a, h1, by rw [up ne]; exact h2, h3, h4.step st (upd_ne ne)⟩
    | lnd d =>
      obtain ⟨a, h1, h2, h3, h4, h5⟩ := q
      have ne : a ≠ L := fun z => by subst z; exact hw h3
      exact ⟨a, h1, h2, h3, h4, h5.step st (upd_ne ne)⟩
    | bor d =>
      obtain ⟨a, h1, h2, h3, h4⟩ := q
      have ne : a ≠ L := fun z => h3 (.inr (.inr z))
      exact ⟨a, h1, h2, h3, h4.step st (upd_ne ne)⟩
    | exn c ns ds => obtain ⟨a, h1, h2⟩ := q; exact ⟨a, h1, h2.step st⟩
  · by_cases ha : a = L
    · subst ha
      rw [show (lcP P a acc').H0 = upd P.H0 a (.lst acc') from rfl, upd_same] at h
      rw [upd_same]; exact h
    · rw [up ha] at h
      rw [upd_ne ha]; exact S.keep a o h w
  · by_cases ha : a = L
    · subst ha; rw [upd_same]; simp
    · rw [up ha] at h
      rw [upd_ne ha]; exact S.live a h
  · by_cases ha : a = L
    · subst ha; rw [show (lcP P a acc').H0 = upd P.H0 a (.lst acc') from rfl, upd_same]; simp
    · rw [up ha]; exact S.z0 a z
/-- the list is done: a new object of one's own -/
theorem Sat.lcOut {L : Addr} {acc : List V} {xs : List D} (S : Sat e (lcP P L acc) G σ H) (h0 : P.H0 L = none) (hz0 : ¬ P.Z0 L) (hw : ¬ P.Wr L) (hp : ∀ (a : Addr), P.Z0 a → P.H0 a ≠ none) (hwz : ∀ a, P.Wr a → P.Z0 a) (r : Rps e (Zn (lcP P L acc) G σ) H xs acc) :
    Sat e P (G ++ [.own (.lst xs)]) (σ ++ [some (.ref L)]) H ∧ ∀ a, Zn P (G ++ [.own (.lst xs)]) (σ ++ [some (.ref L)]) a ↔ Zn (lcP P L acc) G σ a := by
  have hl := S.len
  have hH := lcP_acc S hw
  have old : ∀ {i : Nat} {s : Sl}, (G ++ [Sl.own (.lst xs)])[i]? = some s → (i < G.length ∧ G[i]? = some s ∧ (σ ++ [some (V.ref L)])[i]? = σ[i]?) ∨ (i = G.length ∧ s = .own (.lst xs) ∧ (σ ++ [some (V.ref L)])[i]? = some (some (.ref L))) := fun {i s} h => by
    by_cases hi : i < G.length
    · rw [List.getElem?_append_left hi] at h
      exact .inl ⟨hi, h, List.getElem?_append_left (hl ▸ hi)⟩
    · have : i = G.length := by
        have := (List.getElem?_eq_some_iff.mp h).1
        simp at this; omega
      subst this
      simp at h
      exact .inr ⟨rfl, h.symm, by rw [hl]; simp⟩
  have hz : ∀ a, Zn P (G ++ [.own (.lst xs)]) (σ ++ [some (.ref L)]) a ↔ Zn (lcP P L acc) G σ a := fun a => by
    rw [zn_lc]
    constructor
    · rintro (z | ⟨j, d, h1, h2⟩)
      · exact .inl (.inl z)
      · rcases old h1 with ⟨_, q1, q2⟩ | ⟨_, q1, q2⟩
        · rw [q2] at h2; exact .inl (.inr ⟨j, d, q1, h2⟩)
        · rw [q2] at h2; cases h2; exact .inr rfl
    · rintro ((z | ⟨j, d, h1, h2⟩) | z)
      · exact .inl z
      · exact .inr ⟨j, d, get_append' h1, get_append' h2⟩
      · subst z; exact .inr ⟨G.length, .lst xs, by simp, by rw [hl]; simp⟩
  have up : ∀ {a : Addr}, a ≠ L → (lcP P L acc).H0 a = P.H0 a := fun ha => by
    rw [show (lcP P L acc).H0 = upd P.H0 L (.lst acc) from rfl, upd_ne ha]
  have zm : ∀ a, Zn P (G ++ [.own (.lst xs)]) (σ ++ [some (.ref L)]) a → Zn (lcP P L acc) G σ a := fun a z => (hz a).mp z
  refine ⟨⟨by simp [hl], fun i s h => ?_, fun i j d d' b h1 h2 h3 h4 => ?_, fun i j d d' b h1 h2 h3 h4 => ?_, fun a o h w => ?_, fun a h => ?_, hp, hwz⟩, hz⟩
  · rcases old h with ⟨hi, q1, q2⟩ | ⟨rfl, rfl, q2⟩
    · have q := (S.slot i s q1).zone zm
      cases s with
      | no => trivial
      | imm d => obtain ⟨v, h1, h2⟩ := q; exact ⟨v, by rw [q2]; exact h1, h2⟩
      | own d =>
        obtain ⟨a, h1, h2, h3, h4⟩ := q
        have ne : a ≠ L := fun z => h3 (.inr z)
        exact ⟨a, by rw [q2]; exact h1, by rw [← up ne]; exact h2, fun z => h3 (.inl z), h4⟩
      | lnd d =>
        obtain ⟨a, h1, h2, h3, h4, h5⟩ := q
        exact ⟨a, by rw [q2]; exact h1, h2, h3, hwz a h3, h5⟩
      | bor d =>
        obtain ⟨a, h1, h2, h3, h4⟩ := q
        have ne : a ≠ L := fun z => h3 (.inr (.inr z))
        exact ⟨a, by rw [q2]; exact h1, h2.elim id fun z => absurd z ne, fun z => z.elim (fun z => h3 (.inl z)) fun z => h3 (.inr (.inl z)), h4⟩
      | exn c ns ds => obtain ⟨a, h1, h2⟩ := q; exact ⟨a, by rw [q2]; exact h1, h2⟩
    · exact ⟨L, q2, h0, hz0, acc, hH, Rps.zone r zm⟩
  · rcases old h1 with ⟨a1, a2, a3⟩ | ⟨a1, a2, a3⟩
    · rcases old h2 with ⟨b1, b2, b3⟩ | ⟨b1, b2, b3⟩
      · rw [a3] at h3; rw [b3] at h4; exact S.dist i j d d' b a2 b2 h3 h4
      · rw [b3] at h4; cases h4
        obtain ⟨a, k1, _, k3, _⟩ := S.slot _ _ a2
        rw [a3, k1] at h3; cases h3
        exact absurd (.inr rfl) k3
    · rcases old h2 with ⟨b1, b2, b3⟩ | ⟨b1, b2, b3⟩
      · rw [a3] at h3; cases h3
        obtain ⟨a, k1, _, k3, _⟩ := S.slot _ _ b2
        rw [b3, k1] at h4; cases h4
        exact absurd (.inr rfl) k3
      · omega
  · rcases old h1 with ⟨a1, a2, a3⟩ | ⟨a1, a2, a3⟩
    · rcases old h2 with ⟨b1, b2, b3⟩ | ⟨b1, b2, b3⟩
      · rw [a3] at h3; rw [b3] at h4; exact S.par i j d d' b a2 b2 h3 h4
      · cases b2
    · cases a2
  · by_cases ha : a = L
    · subst ha; rw [h0] at h; cases h
    · exact S.keep a o (by rw [up ha]; exact h) w
  · by_cases ha : a = L
    · subst ha; exact absurd h0 h
    · exact S.live a (by rw [up ha]; exact h)
end

/-! ### targets of a comprehension: only its own names change -/
def Same (vs : List Nat) (σ τ : L2.St) : Prop := σ.length = τ.length ∧ ∀ j, j ∉ vs → σ[j]? = τ[j]?
theorem Same.refl {vs : List Nat} {σ : L2.St} : Same vs σ σ := ⟨rfl, fun _ _ => rfl⟩
theorem Same.trans {vs : List Nat} {σ τ ρ : L2.St} (h : Same vs σ τ) (k : Same vs τ ρ) : Same vs σ ρ := ⟨h.1.trans k.1, fun j hj => (h.2 j hj).trans (k.2 j hj)⟩
theorem wipe_in {σ : L2.St} {v : Nat} : ∀ {vs : List Nat}, v ∈ vs → (wipe σ vs)[v]? = if v < σ.length then some none else none
  | [], h => by cases h
  | u :: vs, h => by
    unfold wipe
    by_cases hu : u = v
    · subst hu
      by_cases hl : u < σ.length
      · rw [List.getElem?_set_self (by rw [wipe_length]; exact hl), if_pos hl]
      · rw [if_neg hl, List.getElem?_eq_none (by rw [List.length_set, wipe_length]; omega)]
    · rw [List.getElem?_set_ne hu]
      exact wipe_in ((List.mem_cons.mp h).resolve_left fun z => hu z.symm)
theorem Same.wipe_eq {vs : List Nat} {σ τ : L2.St} (h : Same vs σ τ) : wipe σ vs = wipe τ vs := by
  apply List.ext_getElem?
  intro j
  by_cases hj : j ∈ vs
  · rw [wipe_in hj, wipe_in hj, h.1]
  · rw [wipe_get hj, wipe_get hj, h.2 j hj]
theorem same_wipe {vs : List Nat} {σ : L2.St} : Same vs σ (wipe σ vs) := ⟨(wipe_length σ vs).symm, fun j hj => (wipe_get hj).symm⟩
def tGx (e : Ev) (vs : List Nat) (g : GF) : TG := fun v σ H Q => ∃ P G d, Sat e P G σ H ∧ Rp e (Zn P G σ) H d v ∧ match g d G with
  | some G2 => ∀ σ2, Sat e P G2 σ2 H → Step (Zn P G σ) H (Zn P G2 σ2) H → Same vs σ σ2 → Q σ2 H
  | none => False
def tGxs (e : Ev) (ws : List Nat) (g : List D → List Sl → Option (List Sl)) : TGs := fun vs σ H Q => ∃ P G ds, Sat e P G σ H ∧ Rps e (Zn P G σ) H ds vs ∧ match g ds G with
  | some G2 => ∀ σ2, Sat e P G2 σ2 H → Step (Zn P G σ) H (Zn P G2 σ2) H → Same ws σ σ2 → Q σ2 H
  | none => False
section
variable {e : Ev} {P : Pre} {σ : L2.St} {G G1 G2 : List Sl} {H H1 H2 : Hp} {X : Cx} {pos : Pos} {a : Expr} {ws : List Nat}
theorem dgx_name {i : Nat} {x : Str} (hN : X.N.Nodup) (hi : X.N[i]? = some x) (hx : Loc X.env.scope x) (hw : i ∈ ws := by decide) (hf : X.fn x = true ∨ X.env.scope.names.lookup x = some .local := by first | exact .inl rfl | exact .inr rfl | assumption) : PG X (.Name x pos) (tGx e ws (gN i)) :=
  (pg_name hN hi hx hf).imp fun v σ H Q h => by
    obtain ⟨P, G, d, S, r, h⟩ := h
    split at h
    · rename_i G2 q
      obtain ⟨h1, h2⟩ := put_ok (pv := .val d) (Z := Zn P G σ) (H := H) ⟨S, Step.refl _ _, r⟩ q
      exact h _ h1 h2 ⟨by simp, fun j hj => by rw [List.getElem?_set_ne (fun z : i = j => hj (z ▸ hw))]⟩
    · exact h.elim
theorem dgxs_nil : PGs X [] (tGxs e ws gsNil) := ⟨fun pins s σ H vs us Q I r h => pgs_nil.run pins s σ H vs us Q I r (by
  obtain ⟨P, G, ds, S, rp, h⟩ := h
  cases ds with
  | nil => cases rp; exact ⟨rfl, h σ S (Step.refl _ _) .refl⟩
  | cons d ds => exact h.elim)⟩
theorem dgxs_cons {es : List Expr} {g : GF} {gs : List D → List Sl → Option (List Sl)} (h1 : PG X a (tGx e ws g)) (h2 : PGs X es (tGxs e ws gs)) (hs : (assignEach (a :: es) X.env).map (·.2) = assign a X.env :: (assignEach es X.env).map (·.2) := by rfl) : PGs X (a :: es) (tGxs e ws (gsCons g gs)) :=
  ⟨fun pins s σ H vs us Q I r h => (pgs_cons h1 h2 hs).run pins s σ H vs us Q I r (by
    obtain ⟨P, G, ds, S, rp, h⟩ := h
    cases ds with
    | nil => exact h.elim
    | cons d ds =>
      obtain ⟨v, r', rfl, r1, r2⟩ := rp
      refine ⟨v, r', rfl, P, G, d, S, r1, ?_⟩
      simp only [gsCons] at h
      cases q : g d G with
      | none => rw [q] at h; exact h
      | some G1 =>
        rw [q] at h
        intro σ2 S2 st2 sm2
        refine ⟨P, G1, ds, S2, Rps.step st2 _ _ r2, ?_⟩
        simp only at h
        cases q2 : gs ds G1 with
        | none => rw [q2] at h; exact h
        | some G2 => rw [q2] at h; exact fun σ3 S3 st3 sm3 => h σ3 S3 (st2.trans st3) (sm2.trans sm3))⟩
theorem dgx_tup {es : List Expr} {k n : Nat} {gs : List D → List Sl → Option (List Sl)} (hK : X.K = e.K) (hc : X.calm = true) (h : PGs X es (tGxs e ws gs)) (hn : (assignEach es X.env).length = n := by rfl) (hst : (assignEach es X.env).findIdx? (·.1) = none := by rfl) : PG X (.Tuple es k pos) (tGx e ws (gT n gs)) :=
  (pg_tup hc h hn hst).imp fun v σ H Q h => by
    obtain ⟨P, G, d, S, r, h⟩ := h
    unfold gT at h
    cases d with
    | tup ds =>
      obtain ⟨a, vs, rfl, h1, h2⟩ := r
      simp only at h
      by_cases hl : ds.length = n
      · rw [if_pos hl] at h
        exact ⟨a, vs, rfl, hK ▸ h1.sq, by rw [h2.length]; exact hl, P, G, ds, S, h2, h⟩
      · rw [if_neg hl] at h; exact h.elim
    | _ => exact h.elim
end
section
variable {e : Ev} {W : WX} {P : Pre} {σ : L2.St} {G G1 G2 : List Sl} {H H1 H2 : Hp} {Z : Zo} {X : Cx} {src : F (List D)} {vs : List Nat} {g : GF} {t : TF} {f : EF}
abbrev W0 : WX := fun _ _ _ _ => False
theorem PostR.noEx {α : Type} {Q : α → List Sl → Prop} {x : R α} {Z0 : Zo} {H0 : Hp} {W' : WX} {P' : Pre} (h : PostR e W' P' σ Z0 H0 Q (PD.noEx x)) : ∃ a G1, x = .ok a G1 ∧ Q a G1 := by
  cases x with
  | ok a G1 => exact ⟨a, G1, rfl, h⟩
  | ex c ns ds G1 => exact h.elim
  | bad => exact h.elim
theorem tD_lc {Q : VK} (h : tD e W (cLC src vs g t f) σ H Q) : tLc (tI e W src) (tGx e vs g) (tT e W0 t) (tD e W0 f) vs σ H Q := by
  obtain ⟨P, G, S, h⟩ := h
  refine ⟨P, G, S, h.bind.mono (fun ds G1 q J H1 S1 st1 it L hL => ?_) fun _ _ s => s⟩
  split at q
  case isFalse => exact q.elim
  rename_i hW
  unfold okW at hW
  simp only [Bool.and_eq_true, decide_eq_true_eq, List.all_eq_true] at hW
  obtain ⟨nd, hall⟩ := hW
  have hlt : ∀ v ∈ vs, v < σ.length := fun v hv => by
    have := hall v hv
    split at this
    · rename_i s q1
      rw [← S1.len]; exact (List.getElem?_eq_some_iff.mp q1).1
    · cases this
  have held : ∀ v ∈ vs, Held e (Zn P G1 σ) H1 σ v ((G1[v]?).getD .no) := fun v hv => by
    have := hall v hv
    split at this
    · rename_i s q1
      rw [q1]
      have k := S1.slot _ _ q1
      cases s with
      | no => exact .inl rfl
      | imm d => obtain ⟨x, k1, k2⟩ := k; exact .inr ⟨d, x, rfl, k1, k2⟩
      | _ => cases this
    · cases this
  have h0 : P.H0 L = none := by
    cases q : P.H0 L with
    | none => rfl
    | some o => exact absurd hL (S1.live L (by rw [q]; simp))
  have hz0 : ¬ P.Z0 L := fun z => S1.z0 L z h0
  have hw : ¬ P.Wr L := fun z => hz0 (S1.wz L z)
  have SL := S1.lcIn (acc := []) hL
  have stL : Step (Zn P G1 σ) H1 (Zn (lcP P L []) G1 σ) (upd H1 L (.lst [])) := step_grow (upd_keeps hL) fun a ha z => by
    rcases zn_lc.mp z with z | z
    · exact z
    · subst z; exact absurd hL ha
  obtain ⟨SW, zW⟩ := SL.wiped vs
  have kp : ∀ {acc : List V} {Gi : List Sl} {τ : L2.St} {Hi : Hp}, Sat e (lcP P L acc) Gi τ Hi → Kp P Hi := fun {acc Gi τ Hi} Si a o ha w _ => by
    have ne : a ≠ L := fun z => by subst z; rw [h0] at ha; cases ha
    exact Si.keep a o (by rw [show (lcP P L acc).H0 = upd P.H0 L (.lst acc) from rfl, upd_ne ne]; exact ha) w
  refine ⟨fun i m Hi => m = ds.length - i ∧ i ≤ ds.length ∧ ∃ Gi acc xs, Sat e (lcP P L acc) (wipeG Gi vs) (wipe σ vs) Hi ∧ Step (Zn P G1 σ) H1 (Zn (lcP P L acc) (wipeG Gi vs) (wipe σ vs)) Hi ∧ Rps e (Zn (lcP P L acc) (wipeG Gi vs) (wipe σ vs)) Hi xs acc ∧
    PostR e W P σ (Zn P G σ) H (fun pv G2 => ∀ v H2, Res e P σ (Zn P G σ) H pv G2 v H2 → Q v H2) ((lcGo vs g t f (ds.drop i) xs Gi).bind fun xs G2 => .ok (.fr (.lst xs)) (resG G1 (wipeG G2 vs) vs)), ⟨ds.length, by simp, Nat.zero_le _, G1, [], [], SW, (stL.zone zW), rfl, by simpa using q⟩, ?_⟩
  rintro i m Hi ⟨rfl, hi, Gi, acc, xs, Si, sti, ri, post⟩
  by_cases hlt' : i < ds.length
  · refine .inr ⟨it.go _ _ i sti (kp Si) hlt', ?_⟩
    rw [List.drop_eq_getElem_cons hlt'] at post
    simp only [lcGo] at post
    refine ⟨fun H' => ∃ Gj acc' xs', Sat e (lcP P L acc') (wipeG Gj vs) (wipe σ vs) H' ∧ Step (Zn P G1 σ) H1 (Zn (lcP P L acc') (wipeG Gj vs) (wipe σ vs)) H' ∧ Rps e (Zn (lcP P L acc') (wipeG Gj vs) (wipe σ vs)) H' xs' acc' ∧
      PostR e W P σ (Zn P G σ) H (fun pv G2 => ∀ v H2, Res e P σ (Zn P G σ) H pv G2 v H2 → Q v H2) ((lcGo vs g t f (ds.drop (i + 1)) xs' Gj).bind fun xs G2 => .ok (.fr (.lst xs)) (resG G1 (wipeG G2 vs) vs)), fun H' ⟨Gj, acc', xs', a1, a2, a3, a4⟩ => ⟨ds.length - (i + 1), by omega, rfl, hlt', Gj, acc', xs', a1, a2, a3, a4⟩, fun x H'' y => ?_⟩
    obtain ⟨gr, rp⟩ := it.yl _ _ i ds[i] x H'' sti (kp Si) (fun a z => Si.zlive z) (List.getElem?_eq_getElem hlt') y
    have S2 := Si.grow gr
    have sg := step_of_grow Si gr
    have st2 := sti.trans sg
    refine ⟨lcP P L acc, wipeG Gi vs, ds[i], S2, rp, ?_⟩
    split at post
    · exact post.elim
    · rename_i G3 q3
      rw [q3]
      intro σ3 S3 st3 sm3
      have st3' := st2.trans st3
      have w3 : wipe σ3 vs = wipe σ vs := (same_wipe.trans sm3).wipe_eq.symm
      have r3 := Rps.step (sg.trans st3) _ _ ri
      obtain ⟨b, G4, qt, post⟩ : ∃ b G4, t G3 = .ok b G4 ∧ PostR e W P σ (Zn P G σ) H (fun pv G2 => ∀ v H2, Res e P σ (Zn P G σ) H pv G2 v H2 → Q v H2) ((if b = true then (PD.noEx (f G4)).bind fun pv G3 => (match esc pv G3 with
        | some (x, G4) => if xs.length < 1000000 then lcGo vs g t f (ds.drop (i + 1)) (xs ++ [x]) G4 else .bad
        | none => .bad) else lcGo vs g t f (ds.drop (i + 1)) xs G4).bind fun xs G2 => .ok (.fr (.lst xs)) (resG G1 (wipeG G2 vs) vs)) := by
        cases q5 : t G3 with
        | ok b G4 => rw [q5] at post; exact ⟨b, G4, rfl, post⟩
        | ex c ns es G4 => rw [q5] at post; exact post.elim
        | bad => rw [q5] at post; exact post.elim
      refine ⟨w3, lcP P L acc, G3, S3, ?_⟩
      rw [qt]
      intro H4 S4 st4
      have r4 := Rps.step st4 _ _ r3
      have st4' := st3'.trans st4
      cases b with
      | false =>
        rw [if_neg (by decide)] at post
        refine iteF ⟨G4, acc, xs, ?_⟩
        obtain ⟨S5, z5⟩ := S4.wiped vs
        rw [w3] at S5 z5
        exact ⟨S5, st4'.zone z5, Rps.zone r4 z5, post⟩
      | true =>
        rw [if_pos rfl] at post
        obtain ⟨pv, G5, qf, post⟩ : ∃ pv G5, f G4 = .ok pv G5 ∧ PostR e W P σ (Zn P G σ) H (fun pv G2 => ∀ v H2, Res e P σ (Zn P G σ) H pv G2 v H2 → Q v H2) ((match esc pv G5 with
          | some (x, G4) => if xs.length < 1000000 then lcGo vs g t f (ds.drop (i + 1)) (xs ++ [x]) G4 else .bad
          | none => .bad).bind fun xs G2 => .ok (.fr (.lst xs)) (resG G1 (wipeG G2 vs) vs)) := by
          cases q5 : f G4 with
          | ok pv G5 => rw [q5] at post; exact ⟨pv, G5, rfl, post⟩
          | ex c ns es G4 => rw [q5] at post; exact post.elim
          | bad => rw [q5] at post; exact post.elim
        refine iteT ⟨lcP P L acc, G4, S4, ?_⟩
        rw [qf]
        intro v H5 r5
        obtain ⟨S5, st5, t5⟩ := r5.tmp
        split at post
        · rename_i d' G6 q6
          obtain ⟨S6, st6, r6⟩ := esc_ok S5 t5 q6
          split at post
          · rename_i hlen
            have rr := Rps.step (st5.trans st6) _ _ r4
            obtain ⟨S7, st7⟩ := S6.lcApp (acc' := acc ++ [v]) hw
            obtain ⟨S8, z8⟩ := S7.wiped vs
            rw [w3] at S8 z8
            refine ⟨acc, lcP_acc S6 hw, ?_, G6, acc ++ [v], xs ++ [d'], S8, (((st4'.trans st5).trans st6).trans st7).zone z8, ?_, post⟩
            · rw [rr.length]; exact Nat.lt_of_lt_of_le hlen (by decide)
            · exact Rps.zone (Rps.step st7 _ _ (rps_snoc rr r6)) z8
          · exact post.elim
        · exact post.elim
  · have e1 : i = ds.length := by omega
    subst e1
    refine .inl ⟨it.st _ _ sti (kp Si), ?_⟩
    rw [List.drop_length] at post
    obtain ⟨S3, z3⟩ := Sat.back (G0 := G1) nd hlt Si fun v hv => by
      rcases held v hv with h | ⟨d, x, h1, h2, h3⟩
      · exact .inl h
      · exact .inr ⟨d, x, h1, h2, Rp.step sti _ _ h3⟩
    obtain ⟨S4, z4⟩ := S3.lcOut h0 hz0 hw S1.z0 S1.wz (Rps.zone ri fun a z => (z3 a).mp z)
    exact post _ Hi ⟨L, rfl, S4, st1.trans (sti.zone fun a z => (z3 a).mp ((z4 a).mp z))⟩
end

section
variable {e : Ev} {W : WX} {σ : L2.St} {H : Hp} {X : Cx} {src : F (List D)} {g : GF} {t : TF} {f : EF} {elt tg iter c : Expr} {ifs : List Expr} {scope : Scope} {own : List (Str × Nat)} {pos spos py : Pos}
theorem bd_blk {s : Shared} {cenv : Env} {fp : List Addr} (B : Bd e X W) : Bd e (X.blk s H scope cenv fp) W0 := ⟨B.hK, takes0, PassesOwn.never, B.hu⟩
theorem dts_nil : PTs X [] (tT e W tYesD) := ⟨fun pins s σ H Q I h => pts_nil.run pins s σ H Q I (by
  obtain ⟨P, G, S, h⟩ := h
  exact h H S (Step.refl _ _))⟩
theorem dts_one (h : PT X c (tT e W t)) : PTs X [c] (tT e W t) := pts_one h
theorem de_lc (B : Bd e X W) (hc : X.calm = true) (hN : X.N.Nodup) (hi : PI X tg iter (tI e W src)) (ok : blkC X.N X.env.scope scope own = true)
    (hg : ∀ (s : Shared) (H : Hp) (C : Addr) (cl : List (Str × Addr)) (fp : List Addr), Bd e (X.blk s H scope (compEnvC scope cl C X.env) fp) W0 → PG (X.blk s H scope (compEnvC scope cl C X.env) fp) tg (tGx e (own.map (·.2)) g)) (ht : ∀ (s : Shared) (H : Hp) (C : Addr) (cl : List (Str × Addr)) (fp : List Addr), Bd e (X.blk s H scope (compEnvC scope cl C X.env) fp) W0 → PTs (X.blk s H scope (compEnvC scope cl C X.env) fp) ifs (tT e W0 t))
    (he : ∀ (s : Shared) (H : Hp) (C : Addr) (cl : List (Str × Addr)) (fp : List Addr), Bd e (X.blk s H scope (compEnvC scope cl C X.env) fp) W0 → PE (X.blk s H scope (compEnvC scope cl C X.env) fp) elt (tD e W0 f)) (hs : ∀ x, foldedSetIterable iter X.env x = pure x := by intro _; rfl) :
    PE X (.ListComp elt [⟨tg, iter, ifs, 0⟩] scope pos) (tD e W (cLC src (own.map (·.2)) g t f)) :=
  (pe_lc hc hN hi (blkOk_by ok) (fun s H C cl fp => hg s H C cl fp (bd_blk B)) (fun s H C cl fp => ht s H C cl fp (bd_blk B)) (fun s H C cl fp => he s H C cl fp (bd_blk B)) hs).imp fun _ _ _ h => tD_lc h
theorem ds_setLc {i : Nat} {y : Str} (B : Bd e X W) (hc : X.calm = true) (hN : X.N.Nodup) (hy : X.N[i]? = some y) (hyl : X.env.scope.names.lookup y = some .local) (hi : PI X tg iter (tI e W src)) (ok : blkC X.N X.env.scope scope own = true)
    (hg : ∀ (s : Shared) (H : Hp) (C : Addr) (cl : List (Str × Addr)) (fp : List Addr), Bd e (X.blk s H scope (compEnvC scope cl C X.env) fp) W0 → PG (X.blk s H scope (compEnvC scope cl C X.env) fp) tg (tGx e (own.map (·.2)) g)) (ht : ∀ (s : Shared) (H : Hp) (C : Addr) (cl : List (Str × Addr)) (fp : List Addr), Bd e (X.blk s H scope (compEnvC scope cl C X.env) fp) W0 → PTs (X.blk s H scope (compEnvC scope cl C X.env) fp) ifs (tT e W0 t))
    (he : ∀ (s : Shared) (H : Hp) (C : Addr) (cl : List (Str × Addr)) (fp : List Addr), Bd e (X.blk s H scope (compEnvC scope cl C X.env) fp) W0 → PE (X.blk s H scope (compEnvC scope cl C X.env) fp) elt (tD e W0 f)) (hs : ∀ x, foldedSetIterable iter X.env x = pure x := by intro _; rfl)
    (hk : X.env.scope.kind = .function := by rfl) (hl : (py.line == pos.line) = true := by rfl) (ha : (scope.names.any fun (n, k) => n == y && (k == .local || k == .cell)) = false := by rfl) :
    PS X (.Assign [.Name y py] (.ListComp elt [⟨tg, iter, ifs, 0⟩] scope pos) spos) (tS e W (cSet i (cLC src (own.map (·.2)) g t f))) :=
  (ps_setLc hc hN hy hyl (sw_true hk hyl hl ha) hi (blkOk_by ok) (fun s H C cl fp => hg s H C cl fp (bd_blk B)) (fun s H C cl fp => ht s H C cl fp (bd_blk B)) (fun s H C cl fp => he s H C cl fp (bd_blk B)) hs).imp fun D σ H h => by
    obtain ⟨P, G, S, h⟩ := h
    refine tD_lc (PostS.bindD S h fun pv G1 v H1 r q => ?_)
    split at q
    · rename_i G2 q1
      obtain ⟨S2, st2⟩ := put_ok r q1
      exact q _ H1 S2 st2
    · exact q.elim
/-! ### what is never reached -/
def cBad : EF := fun _ => .bad
def sBad : SF := fun _ => .bad
theorem de_bad {a : Expr} : PE X a (tD e W cBad) := ⟨fun _ _ _ _ _ _ ⟨_, _, _, h⟩ => h.elim⟩
theorem ds_bad {a : Stmt} : PS X a (tS e W sBad) := ⟨fun _ _ _ _ _ _ ⟨_, _, _, h⟩ => h.elim⟩
/-! ### bool(x) -/
theorem Rps.isEmpty {Z : Zo} : ∀ {ds : List D} {vs : List V}, Rps e Z H ds vs → vs.isEmpty = ds.isEmpty
  | [], _, h => by cases h; rfl
  | _ :: _, _, h => by obtain ⟨_, _, rfl, _⟩ := h; rfl
def kBoolC : List D → Option PV
  | [.bl b] => some (.val (.bl b))
  | [.int i] => some (.val (.bl (i != 0)))
  | [.lst ds] => some (.val (.bl (!ds.isEmpty)))
  | _ => none
theorem bBool (hK : X.K = e.K) : CallR X (.type "bool") (rKB e kBoolC) := by
  refine callK fun pins s σ H xs us Q Z ds r I rx zl r0 h q => ?_
  unfold kBoolC at h
  split at h
  · cases h
    obtain ⟨v, rfl, r1⟩ := r0.one
    cases r1.bl
    exact call_bool1 pins s σ H _ us Q I rx (.inr ⟨_, rfl, q _ H (Out.scal fun _ _ => rfl)⟩)
  · cases h
    obtain ⟨v, rfl, r1⟩ := r0.one
    cases r1.int
    exact call_bool1 pins s σ H _ us Q I rx (.inl ⟨_, rfl, q _ H (Out.scal fun _ _ => rfl)⟩)
  · cases h
    obtain ⟨v, rfl, r1⟩ := r0.one
    obtain ⟨a, vs, rfl, h1, h2⟩ := r1.lst
    refine call_boolL pins s σ H _ us Q I rx ⟨a, vs, rfl, .inl (.inl h1), ?_⟩
    have : vs.isEmpty = _ := h2.isEmpty
    rw [this]
    exact q _ H (Out.scal fun _ _ => rfl)
  · cases h
end
end PD

/-! PD17: what the later combinators compute, for simp -/
namespace PD
open PySem PySem.Spec L2 L2H
section
variable {fa fb fc : EF} {fs : AF} {f g : SF} {t u : TF} {G : List Sl} {i j : Nat} {d : D}
@[simp] theorem cOw_ap {sw ng : Bool} {c : Nat} {m : MF} {mds : List Md} : cOw sw ng c m mds fa fb G = (fa G).bind fun a G1 => (fb G1).bind fun b G2 => owFin sw ng c m mds a b G2 := rfl
@[simp] theorem owFin_ap {sw ng : Bool} {c : Nat} {m : MF} {mds : List Md} {a b : PV} : owFin sw ng c m mds a b G = if obC c a G = true ∧ obC c b G = true then (if ng = true then negR (runC m mds (if sw = true then [b, a] else [a, b]) G) else runC m mds (if sw = true then [b, a] else [a, b]) G) else .bad := rfl
@[simp] theorem obC_ap {c : Nat} {p : PV} : obC c p G = match peek p G with
  | some (.obj c' _ _) => decide (c' = c)
  | _ => false := rfl
@[simp] theorem negR_bl {b : Bool} : negR (.ok (.val (.bl b)) G) = .ok (.val (.bl (!b))) G := rfl
theorem cLC_ap {src : F (List D)} {vs : List Nat} {g : GF} : cLC src vs g t fa G = (src G).bind fun ds G1 => if okW G1 vs = true then (lcGo vs g t fa ds [] G1).bind fun xs G2 => .ok (.fr (.lst xs)) (resG G1 (wipeG G2 vs) vs) else .bad := rfl
@[simp] theorem tYesD_ap : tYesD G = .ok true G := rfl
@[simp] theorem okW_ap {vs : List Nat} : okW G vs = (decide vs.Nodup && vs.all fun v => match G[v]? with
  | some s => plS s
  | none => false) := rfl
@[simp] def q_wipeG_1 := @wipeG.eq_1
@[simp] def q_wipeG_2 := @wipeG.eq_2
@[simp] def q_resG_1 := @resG.eq_1
@[simp] def q_resG_2 := @resG.eq_2
@[simp] theorem plS_no : plS .no = true := rfl
@[simp] theorem plS_imm : plS (.imm d) = true := rfl
@[simp] theorem kNe_bl {a b : Bool} : kNe (.bl a) (.bl b) = some (.val (.bl (a != b))) := by
  cases a <;> cases b <;> simp [kNe, toPy, PyData.plain, PyData.depth, PyData.eqv]
@[simp] theorem kNe_str {a b : Str} : kNe (.str a) (.str b) = some (.val (.bl (a != b))) := by
  simp [kNe, toPy, PyData.plain, PyData.depth, PyData.eqv]
  cases h : (a == b) <;> simp [bne, h]
@[simp] theorem kBool_bl {b : Bool} : kBoolC [.bl b] = some (.val (.bl b)) := rfl
@[simp] theorem kBool_int {i : Int} : kBoolC [.int i] = some (.val (.bl (i != 0))) := rfl
@[simp] theorem kBool_lst {ds : List D} : kBoolC [.lst ds] = some (.val (.bl (!ds.isEmpty))) := rfl
end
/-- a comprehension by its items: each item is made, the state goes on -/
theorem lcGo_ix {vs : List Nat} {g : GF} {t : TF} {f : EF} {ds : List D} {G : List Sl} (I : Nat → List D → List Sl → Prop) (h0 : I 0 [] G)
    (step : ∀ (i : Nat) (d : D) (xs : List D) (G : List Sl), ds[i]? = some d → I i xs G → xs.length ≤ i → ∃ G1, g d (wipeG G vs) = some G1 ∧
      ((∃ G2 pv G3 x G4, t G1 = .ok true G2 ∧ f G2 = .ok pv G3 ∧ esc pv G3 = some (x, G4) ∧ I (i + 1) (xs ++ [x]) G4) ∨ ∃ G2, t G1 = .ok false G2 ∧ I (i + 1) xs G2)) (hl : ds.length < 1000000) :
    ∃ xs G', lcGo vs g t f ds [] G = .ok xs G' ∧ I ds.length xs G' := by
  have main : ∀ (n i : Nat) (xs : List D) (G : List Sl), n = ds.length - i → i ≤ ds.length → I i xs G → xs.length ≤ i → ∃ xs' G', lcGo vs g t f (ds.drop i) xs G = .ok xs' G' ∧ I ds.length xs' G' := by
    intro n
    induction n with
    | zero =>
      intro i xs G hn hi h hx
      have : i = ds.length := by omega
      subst this
      exact ⟨xs, G, by rw [List.drop_length]; rfl, h⟩
    | succ n ih =>
      intro i xs G hn hi h hx
      have hlt : i < ds.length := by omega
      rw [List.drop_eq_getElem_cons hlt]
      obtain ⟨G1, h1, h2⟩ := step i ds[i] xs G (List.getElem?_eq_getElem hlt) h hx
      rcases h2 with ⟨G2, pv, G3, x, G4, k1, k2, k3, k4⟩ | ⟨G2, k1, k2⟩
      · obtain ⟨xs', G', e1, e2⟩ := ih (i + 1) (xs ++ [x]) G4 (by omega) hlt k4 (by simp; omega)
        refine ⟨xs', G', ?_, e2⟩
        have hx' : xs.length < 1000000 := by omega
        simp only [lcGo, h1, k1, noEx_ok, R.bind_ok, if_true, k2, k3, if_pos hx']
        exact e1
      · obtain ⟨xs', G', e1, e2⟩ := ih (i + 1) xs G2 (by omega) hlt k2 (by omega)
        refine ⟨xs', G', ?_, e2⟩
        simp only [lcGo, h1, k1, noEx_ok, R.bind_ok]
        exact e1
  obtain ⟨xs, G', e1, e2⟩ := main ds.length 0 [] G (by simp) (Nat.zero_le _) h0 (Nat.le_refl _)
  exact ⟨xs, G', by simpa using e1, e2⟩
end PD

/-! PD18: operators of own classes with an int beside -/
namespace PD
open PySem PySem.Spec PySem.SeqAt L2 L2H
section
variable {M : Model} {prog : Program} {w : World} {A : Around} {E : Value → Shared → Prop} {s : Shared} {K : PySem.W.Frag} {x C f : Addr} {ox : Obj} {od : Option Obj}
theorem add_ref {a : Int} {t : Tok} {b : Addr} {ob : Obj} {Q : PySem.Fin → Shared → Prop} (hb : s.heap.get? b = some ob) (hd : ob.data = .plain) (h : Q (.done (.ret .notImplemented)) s) : wpAny M A (Builtin.«int.__add__» ⟨[.int a t, .ref b], []⟩) Q E s := by
  obtain ⟨hp, g, d, tk, os⟩ := s
  wp_walk
  rw [hd]
  wp_walk
  exact h
theorem rbin_K {op : Operator} {b : Value} {T : String} {Q : Value → Shared → Prop} {g : Addr} (X : K.In s.heap) (I : PySem.W.InstAt s.heap x ox C od) (hb : s.TypeIs b T) (hfT : fillsNumberSlot (.type T) op.info.2 = pure true) (hc : PySem.W.selfFirst K C = true) (hs : PySem.W.findIn K (.ref C) (PySem.dunder op.info.2) = some (some (.ref f))) (hr : PySem.W.findIn K (.ref C) (dunderR op.info.2) = some (some (.ref g))) (hf : PySem.W.isFn K (.ref g) = true) (hsub : PySem.W.subIn K (.ref C) (.type T) = some false)
    (one : wpAny (model prog w) A (tryMethod b (PySem.dunder op.info.2) (.ref x)) (fun r s' => r = none ∧ s' = s) E s)
    (h : wpAny (model prog w) A (call (.ref g) [.ref x, b]) (PySem.W.CmpBack Q) E s) : wpAny (model prog w) A (binaryOp op b (.ref x)) Q E s := by
  obtain ⟨cd, rest, hcd, hm⟩ := PySem.W.ksp_first hc
  have two := PySem.W.ksp_try X I hr hf h
  rcases hi : op.info with ⟨sym, nm'⟩
  rw [hi] at hs hr one two hfT
  dsimp only at hs hr one two hfT
  have L2 : PySem.W.Looks (model prog w) s.heap (typeOf (.ref x)) (.ref C) := I.type
  have L4 : PySem.W.Looks (model prog w) s.heap (fillsNumberSlot (.ref C) nm') true := PySem.W.fills_K X hcd hm hs
  have L5 : PySem.W.Looks (model prog w) s.heap (isSubtype (.ref C) (.type T)) false := PySem.W.looks_subIn X hsub
  have hne : (Value.type T == Value.ref C) = false := Bool.eq_false_iff.mpr fun q => by cases beq_iff_eq.mp q
  simp only [binaryOp, hi]
  refine wpAny_holding (wpAny_bind ?_)
  unfold binaryOp1
  refine wpAny_bind (wpAny_typeOf hb (wpAny_bind (L2.here (wpAny_bind (wpAny_of_eq hfT ?_)))))
  simp only [hne, Bool.false_eq_true, if_false]
  refine wpAny_bind (L4.here ?_)
  simp only [Bool.and_true, if_true, Bool.true_and]
  refine wpAny_bind (L5.here ?_)
  simp only [Bool.false_eq_true, if_false, Bool.not_false, if_true]
  refine wpAny_bind (m := numberSlotInPython (.type T) nm') (wpAny_of_eq rfl ?_)
  simp only [Bool.false_eq_true, if_false]
  refine wpAny_bind (wpAny_mono one (fun r s' z => ?_) fun _ _ e => e)
  obtain ⟨rfl, rfl⟩ := z
  simp only [Bool.false_eq_true, if_false, Bool.not_false, if_true]
  refine wpAny_bind (wpAny_mono two (fun r s' z => ?_) fun _ _ e => e)
  obtain ⟨v, rfl, hq⟩ := z
  exact wpAny_bind (wpAny_rule (wpAny_pure (wpAny_pure hq)))
theorem t1 {a : Int} {t : Tok} (I : PySem.W.InstAt s.heap x ox C od) (hd : ox.data = .plain) : wpAny (model prog w) A.in1 (Builtin.«int.__add__» ⟨[.int a t, .ref x], []⟩) (fun fin s' => ∃ v, fin = .done (.ret v) ∧ (v = .notImplemented ∧ (none : Option Value) = none ∧ s' = s)) E s := add_ref I.at_ hd ⟨_, rfl, rfl, rfl, rfl⟩
theorem t2 {a : Int} {t : Tok} {Q : Value → Shared → Prop} (h1 : wpAny (model prog w) A.in1 (Builtin.«int.__add__» ⟨[.int a t, .ref x], []⟩) (fun fin s' => ∃ v, fin = .done (.ret v) ∧ Q v s') E s) : wpAny (model prog w) A (call (.builtin "int.__add__") [.int a t, .ref x]) Q E s := wpAny_call_entry F.slot_int_add (typeIs_int s a t) F.entry_int_add h1 (F.args_int_add_2 _ _)
theorem t3 {a : Int} {t : Tok} {Q : Option Value → Shared → Prop} (h1 : wpAny (model prog w) A (call (.builtin "int.__add__") [.int a t, .ref x]) (fun v s' => v = .notImplemented ∧ Q none s') E s) : wpAny (model prog w) A (tryMethod (.int a t) (PySem.dunder "add") (.ref x)) Q E s := by
  have hT : s.TypeIs (.int a t) "int" := typeIs_int s a t
  have hS : Slot "int" (PySem.dunder "add") "int.__add__" := F.slot_int_add
  exact @wpAny_tryMethod_declines _ _ _ _ _ _ _ _ _ _ hT hS h1
theorem int_declines {a : Int} {t : Tok} (I : PySem.W.InstAt s.heap x ox C od) (hd : ox.data = .plain) : wpAny (model prog w) A (tryMethod (.int a t) (PySem.dunder "add") (.ref x)) (fun r s' => r = none ∧ s' = s) E s :=
  t3 (Q := fun r s' => r = none ∧ s' = s) (t2 (Q := fun v s' => v = .notImplemented ∧ (none : Option Value) = none ∧ s' = s) (t1 I hd))
end
/-! ### o + n, n + o -/
def isIn (p : PV) (G : List Sl) : Bool := match peek p G with
  | some (.int _) => true
  | _ => false
/-- o + n (sw: n + o), n an int -/
def cOwI (sw : Bool) (c : Nat) (m : MF) (mds : List Md) (fa fb : EF) : EF := fun G => (fa G).bind fun a G1 => (fb G1).bind fun b G2 =>
  if obC c (if sw = true then b else a) G2 = true ∧ isIn (if sw = true then a else b) G2 = true then runC m mds (if sw = true then [b, a] else [a, b]) G2 else .bad
section
variable {e : Ev} {W : WX} {P : Pre} {σ : L2.St} {G G1 G2 : List Sl} {H H1 H2 : Hp} {Z : Zo} {X : Cx} {pos : Pos} {a b : Expr} {fa fb : EF} {c n : Nat} {m : MF} {mds : List Md} {f : Addr}
theorem isIn_ok {p : PV} {v : V} (S : Sat e P G σ H) (t : Tmp e P σ G H p v) (h : isIn p G = true) : ∃ i, v = .int i := by
  unfold isIn at h
  split at h
  · rename_i i q; exact ⟨i, (peek_ok S t q).int⟩
  · cases h
theorem tD_owI {sw : Bool} {Q : VK} (hn : mds.length = n) (h : tD e W (cOwI sw c m mds fa fb) σ H Q) : tD e W fa σ H fun x H1 => tD e W fb σ H1 fun y H2 => InsR e c H2 (if sw = true then y else x) ∧ (∃ i, (if sw = true then x else y) = V.int i) ∧ spD e n m (if sw = true then [y, x] else [x, y]) H2 Q (WE W σ) := by
  refine tD_two h fun P G Z0 H0 H a b v u S ta tb st q => ?_
  by_cases hob : obC c (if sw = true then b else a) G = true ∧ isIn (if sw = true then a else b) G = true
  · rw [if_pos hob] at q
    cases sw
    · exact ⟨obC_ok S ta hob.1, isIn_ok S tb hob.2, runC_ok S (ps := [a, b]) ⟨_, _, rfl, ta, _, _, rfl, tb, rfl⟩ st hn q⟩
    · exact ⟨obC_ok S tb hob.1, isIn_ok S ta hob.2, runC_ok S (ps := [b, a]) ⟨_, _, rfl, tb, _, _, rfl, ta, rfl⟩ st hn q⟩
  · rw [if_neg hob] at q; exact q.elim
@[simp] theorem isIn_ap {p : PV} : isIn p G = match peek p G with
  | some (.int _) => true
  | _ => false := rfl
@[simp] theorem cOwI_ap {sw : Bool} : cOwI sw c m mds fa fb G = (fa G).bind fun a G1 => (fb G1).bind fun b G2 => if obC c (if sw = true then b else a) G2 = true ∧ isIn (if sw = true then a else b) G2 = true then runC m mds (if sw = true then [b, a] else [a, b]) G2 else .bad := rfl
def rOwI (e : Ev) (W : WX) (sw : Bool) (c n : Nat) (m : MF) : L2.St → V → V → Hp → VK → Prop := fun σ x y H Q => InsR e c H (if sw = true then y else x) ∧ (∃ i, (if sw = true then x else y) = V.int i) ∧ spD e n m (if sw = true then [y, x] else [x, y]) H Q (WE W σ)
theorem de_owI {sw : Bool} {op : Operator} (ho : OpO X (binaryOp op) (rOwI e W sw c n m)) (hn : mds.length = n) (ha : PE X a (tD e W fa)) (hb : PE X b (tD e W fb)) : PE X (.BinOp a op b pos) (tD e W (cOwI sw c m mds fa fb)) :=
  ⟨fun pins s σ H Q I h => wpAny_BinOp (binT ha hb I (tD_owI hn h) fun v u s2 x y H2 I2 rx ry q => ho pins s2 σ H2 x y v u Q I2 rx ry q)⟩
/-- what the text tells of C's + -/
structure AddI (e : Ev) (c : Nat) : Prop where
  sf : PySem.W.selfFirst e.K (e.ga c) = true
  i1 : ∃ fo, PySem.W.findIn e.K (.type "int") "__add__" = some fo
  i2 : ∃ fo, PySem.W.findIn e.K (.type "int") "__radd__" = some fo
  s1 : PySem.W.subIn e.K (.type "int") (.ref (e.ga c)) = some false
  s2 : PySem.W.subIn e.K (.ref (e.ga c)) (.type "int") = some false
def addIB (c : Nat) (nm : Nat → Str) (K : PySem.W.Frag) : Bool := PySem.W.selfFirst K (He.ga K (nm c)) && ((PySem.W.findIn K (.type "int") "__add__").isSome && ((PySem.W.findIn K (.type "int") "__radd__").isSome && (decide (PySem.W.subIn K (.type "int") (.ref (He.ga K (nm c))) = some false) && decide (PySem.W.subIn K (.ref (He.ga K (nm c))) (.type "int") = some false))))
theorem addI_ok (h : addIB c e.nm e.K = true) : AddI e c := by
  obtain ⟨h1, h⟩ := He.ba h
  obtain ⟨h2, h⟩ := He.ba h
  obtain ⟨h3, h⟩ := He.ba h
  obtain ⟨h4, h5⟩ := He.ba h
  exact ⟨h1, Option.isSome_iff_exists.mp h2, Option.isSome_iff_exists.mp h3, of_decide_eq_true h4, of_decide_eq_true h5⟩
theorem ow_addI {g : Addr} (B : Bd e X W) (ad : AddI e c) (hm : Meth e.K (e.ga c) "__add__" f) (hr : Meth e.K (e.ga c) "__radd__" g) (cb : Clb X W f (spD e n m)) : OpO X (binaryOp .Add) (rOwI e W false c n m) := by
  intro pins s σ H x y v u Q I rx ry h
  obtain ⟨⟨p, dx, fs, hx0, hx⟩, ⟨i, hy⟩, h⟩ := h
  simp only [Bool.false_eq_true, if_false] at hx0 hy h
  subst hx0 hy
  obtain rfl : v = Value.ref p := rx
  obtain ⟨t, rfl⟩ := (show ∃ t, u = Value.int i t from ry)
  obtain ⟨ox, od, J⟩ := inst_of I hx
  obtain ⟨m', hF⟩ := I.fr
  have hK := B.hK
  obtain ⟨f1, i1⟩ := ad.i1
  obtain ⟨f2, i2⟩ := ad.i2
  refine PySem.W.ksp_binT (op := .Add) (T := "int") hF I.ok.mod.kin J rfl (hK ▸ ad.sf) (hK ▸ hm.at_) (hK ▸ hm.fn) (hK ▸ hr.at_) (.inr ⟨_, rfl⟩) (hK ▸ i1) (hK ▸ i2) (hK ▸ ad.s1) ?_
  exact wpAny_mono (cb pins s σ H [.ref p, .int i] [.ref p, .int i t] Q I (.cons rfl (.cons ⟨t, rfl⟩ .nil)) h) (fun w s' z => ep_back z) fun _ _ x => x
theorem ow_raddI {g : Addr} (B : Bd e X W) (ad : AddI e c) (hm : Meth e.K (e.ga c) "__add__" f) (hr : Meth e.K (e.ga c) "__radd__" g) (cb : Clb X W g (spD e n m)) : OpO X (binaryOp .Add) (rOwI e W true c n m) := by
  intro pins s σ H x y v u Q I rx ry h
  obtain ⟨⟨p, dx, fs, hy0, hy⟩, ⟨i, hx⟩, h⟩ := h
  simp only [if_true] at hy0 hx h
  subst hy0 hx
  obtain rfl : u = Value.ref p := ry
  obtain ⟨t, rfl⟩ := (show ∃ t, v = Value.int i t from rx)
  obtain ⟨mA, O, _⟩ := ins_get I.hok hy
  obtain ⟨od, J, _⟩ := O.look
  have hK := B.hK
  have KI := I.kIn
  rw [hK] at KI
  refine rbin_K (op := .Add) (T := "int") KI J (typeIs_int s i t) F.fills_int_add ad.sf hm.at_ hr.at_ hr.fn ad.s2 (int_declines J rfl) ?_
  exact wpAny_mono (cb pins s σ H [.ref p, .int i] [.ref p, .int i t] Q I (.cons rfl (.cons ⟨t, rfl⟩ .nil)) h) (fun w s' z => ep_back z) fun _ _ x => x
end
end PD

/-! PD19: statement by statement -/
namespace PD
open PySem PySem.Spec L2
theorem sq {f g : SF} {G G1 : List Sl} {r : R Ctl} (h1 : f G = .ok .nx G1) (h2 : g G1 = r) : cSeq f g G = r := by
  rw [cSeq_ap, h1] <;> exact h2
theorem sq_ret {f g : SF} {G G1 : List Sl} {pv : PV} (h1 : f G = .ok (.ret pv) G1) : cSeq f g G = .ok (.ret pv) G1 := by
  rw [cSeq_ap, h1] <;> rfl
theorem fn_of {np nl : Nat} {b : SF} {A : List Sl} {r : R Ctl} {q : R PV} (h : b (A ++ List.replicate nl .no) = r) (h2 : finF np r = q) : mkFn np nl b A = q := by
  rw [mkFn_ap, h] <;> exact h2
theorem fnH_of {np nl : Nat} {b : SF} {A : List Sl} {r : R Ctl} {q : R PV} (h : b (A ++ List.replicate nl .no) = r) (h2 : finF np (noEx r) = q) : mkFnH np nl b A = q := by
  rw [mkFnH_ap, h] <;> exact h2
end PD

/-! PD20: methods of built-in types; texts -/
namespace PD
open PySem PySem.Spec L2 L2H
def hasTy (T : String) : Option D → Bool
  | some (.str _) => T == "str"
  | some (.lst _) => T == "list"
  | some (.fz _) => T == "list"
  | _ => false
def cMB (T : String) (k : List D → Option PV) (fo : EF) (fs : AF) : EF := fun G => (fo G).bind fun p G1 => if hasTy T (peek p G1) = true then (fs G1).bind fun ps G2 => finB k (p :: ps) G2 else .bad
section
variable {e : Ev} {W : WX} {P : Pre} {σ : L2.St} {G G1 G2 : List Sl} {H H1 H2 : Hp} {Z : Zo} {X : Cx} {pos : Pos} {a b : Expr} {fa fb fo : EF} {fs : AF} {k : List D → Option PV} {T id : String}
theorem hasTy_ok {p : PV} {v : V} {K : PySem.W.Frag} (hk : K = e.K) (S : Sat e P G σ H) (t : Tmp e P σ G H p v) (h : hasTy T (peek p G) = true) : tyV K T v H := by
  subst hk
  unfold hasTy at h
  split at h
  · rename_i x q
    have := (peek_ok S t q).str
    subst this
    exact eq_of_beq h
  · rename_i ds q
    obtain ⟨a, vs, rfl, h1, _⟩ := (peek_ok S t q).lst
    exact .inl ⟨eq_of_beq h, vs, SqL.of h1⟩
  · rename_i ds q
    obtain ⟨a, vs, rfl, h1, _⟩ := (peek_ok S t q).fz
    exact .inl ⟨eq_of_beq h, vs, h1⟩
  · cases h
def rKM (e : Ev) (k : List D → Option PV) : V → List V → Hp → VK → Prop := fun x xs H Q => rKB e k (x :: xs) H Q
theorem mtK (c : CallR X (.builtin id) (rKB e k)) : MtR X id (rKM e k) := fun pins s σ H x xs v us Q I rx rs h => c pins s σ H (x :: xs) (v :: us) Q I (.cons rx rs) h
theorem tD_mb {K : PySem.W.Frag} {Q : VK} (hk : K = e.K) (h : tD e W (cMB T k fo fs) σ H Q) : tBM K T (rKM e k) (tD e W fo) (tA e W fs) σ H Q := by
  refine tD_then h fun P G Z0 H0 H1 p v r q => ?_
  obtain ⟨S, st, t⟩ := r.tmp
  split at q
  · rename_i hty
    refine ⟨hasTy_ok hk S t hty, ?_⟩
    exact tA_at S st (q.bind.mono (fun ps G1 q vs H2 S1 st1 ts => finB_ok S1 (ps := p :: ps) ⟨_, _, rfl, t.step st1, ts⟩ (st.trans st1) q) fun _ _ s => s)
  · exact q.elim
theorem tD_mb0 {K : PySem.W.Frag} {Q : VK} (hk : K = e.K) (h : tD e W (cMB T k fo aNil) σ H Q) : tBM0 K T (rKM e k) (tD e W fo) σ H Q := by
  refine tD_then h fun P G Z0 H0 H1 p v r q => ?_
  obtain ⟨S, st, t⟩ := r.tmp
  split at q
  · rename_i hty
    exact ⟨hasTy_ok hk S t hty, finB_ok S (ps := [p]) ⟨_, _, rfl, t, rfl⟩ st q⟩
  · exact q.elim
variable {o : Expr} {es : List Expr} {name : Str} {apos cpos : Pos}
theorem de_mb0 (hk : X.K = e.K) (pa : PlainAttrs T) (slot : Slot T name id) (hty : typeOf (.builtin id) = pure (.type "method_descriptor")) (hm : CallR X (.builtin id) (rKB e k)) (ho : PE X o (tD e W fo))
    (hbase : attributeBase o name X.env (eval o X.env) = eval o X.env := by rfl) (hline : (apos.endLine == cpos.line) = true := by rfl) : PE X (.Call (.Attribute o name apos) [] [] cpos) (tD e W (cMB T k fo aNil)) :=
  (pe_bm0 pa slot hty (mtK hm) ho hbase hline).imp fun _ _ _ => tD_mb0 hk
theorem de_mb (hk : X.K = e.K) (pa : PlainAttrs T) (slot : Slot T name id) (hty : typeOf (.builtin id) = pure (.type "method_descriptor")) (hm : CallR X (.builtin id) (rKB e k)) (ho : PE X o (tD e W fo)) (ha : PA X (a :: es) (tA e W fs))
    (hbase : attributeBase o name X.env (eval o X.env) = eval o X.env := by rfl)
    (hfew : ((backTo cpos (starEach (a :: es) X.env)).all (fun x => !x.1) && (backToKw cpos (keywordEach [] X.env)).all (fun x => x.1.isSome)
      && decide ((a :: es).length + ([] : List Keyword).length + (if ([] : List Keyword).isEmpty then 0 else 1) < 30)) = true := by rfl)
    (hline : (apos.endLine == cpos.line) = true := by rfl) (hs : starEach (a :: es) X.env = (false, eval a X.env) :: starEach es X.env := by rfl) (hplain : (backTo cpos (starEach es X.env)).any (·.1) = false := by rfl) :
    PE X (.Call (.Attribute o name apos) (a :: es) [] cpos) (tD e W (cMB T k fo fs)) :=
  (pe_bm pa slot hty (mtK hm) ho ha hbase hfew hline hs hplain).imp fun _ _ _ => tD_mb hk
/-! ### the methods -/
def strsD : List D → Option (List Str)
  | [] => some []
  | .str x :: ds => (strsD ds).map (x :: ·)
  | _ :: _ => none
theorem strsD_ok {Z : Zo} : ∀ {ds : List D} {vs : List V} {ys : List Str}, Rps e Z H ds vs → strsD ds = some ys → vs = ys.map V.str
  | [], _, _, h, q => by cases h; cases q; rfl
  | d :: ds, _, ys, h, q => by
    obtain ⟨v, r, rfl, h1, h2⟩ := h
    cases d <;> first
      | (cases q; done)
      | (rename_i x
         simp only [strsD, Option.map_eq_some_iff] at q
         obtain ⟨zs, q, rfl⟩ := q
         rw [strsD_ok h2 q]
         cases h1
         rfl)
theorem rps_strs {Z : Zo} : ∀ ys : List Str, Rps e Z H (ys.map D.str) (ys.map V.str)
  | [] => rfl
  | y :: ys => ⟨_, _, rfl, rfl, rps_strs ys⟩
def kSplit : List D → Option PV
  | [.str a, .str b] => if (b.length == 0) = false ∧ a.length + 2 ≤ sizeLine then some (.fr (.lst ((Txt.split a b).map D.str))) else none
  | _ => none
theorem bSplit : CallR X (.builtin "str.split") (rKB e kSplit) := by
  refine callK fun pins s σ H xs us Q Z ds r I rx zl r0 h q => ?_
  unfold kSplit at h
  split at h
  · split at h
    · rename_i hc
      cases h
      obtain ⟨v, u, rfl, r1, r2⟩ := r0.two
      cases r1.str; cases r2.str
      cases rx with
      | cons x1 xs => exact mt_split pins s σ H _ _ _ _ Q I x1 xs ⟨_, _, rfl, rfl, hc.1, hc.2, fun p hp => q _ _ (Out.newL hp (rps_strs _))⟩
    · cases h
  · cases h
def kFind : List D → Option PV
  | [.str a, .str b] => some (.val (.int (Txt.find a b)))
  | _ => none
theorem bFind : CallR X (.builtin "str.find") (rKB e kFind) := by
  refine callK fun pins s σ H xs us Q Z ds r I rx zl r0 h q => ?_
  unfold kFind at h
  split at h
  · cases h
    obtain ⟨v, u, rfl, r1, r2⟩ := r0.two
    cases r1.str; cases r2.str
    cases rx with
    | cons x1 xs => exact mt_find pins s σ H _ _ _ _ Q I x1 xs ⟨_, _, rfl, rfl, q _ _ (Out.scal fun _ _ => rfl)⟩
  · cases h
def kUpper : List D → Option PV
  | [.str a] => if a.length ≤ 5592405 then some (.val (.str (Txt.upper a))) else none
  | _ => none
theorem bUpper : CallR X (.builtin "str.upper") (rKB e kUpper) := by
  refine callK fun pins s σ H xs us Q Z ds r I rx zl r0 h q => ?_
  unfold kUpper at h
  split at h
  · split at h
    · cases h
      obtain ⟨v, rfl, r1⟩ := r0.one
      cases r1.str
      cases rx with
      | cons x1 xs => exact mt_upper pins s σ H _ _ _ _ Q I x1 xs ⟨_, rfl, rfl, by assumption, q _ _ (Out.scal fun _ _ => rfl)⟩
    · cases h
  · cases h
def kLower : List D → Option PV
  | [.str a] => if a.length ≤ 5592405 then some (.val (.str (Txt.lower a))) else none
  | _ => none
theorem bLower : CallR X (.builtin "str.lower") (rKB e kLower) := by
  refine callK fun pins s σ H xs us Q Z ds r I rx zl r0 h q => ?_
  unfold kLower at h
  split at h
  · split at h
    · cases h
      obtain ⟨v, rfl, r1⟩ := r0.one
      cases r1.str
      cases rx with
      | cons x1 xs => exact mt_lower pins s σ H _ _ _ _ Q I x1 xs ⟨_, rfl, rfl, by assumption, q _ _ (Out.scal fun _ _ => rfl)⟩
    · cases h
  · cases h
def kPartition : List D → Option PV
  | [.str a, .str b] => if (b.length == 0) = false ∧ a.length ≤ sizeLine then some (.val (.tup [.str (Txt.partition a b).1, .str (Txt.partition a b).2.1, .str (Txt.partition a b).2.2])) else none
  | _ => none
theorem bPartition : CallR X (.builtin "str.partition") (rKB e kPartition) := by
  refine callK fun pins s σ H xs us Q Z ds r I rx zl r0 h q => ?_
  unfold kPartition at h
  split at h
  · split at h
    · rename_i hc
      cases h
      obtain ⟨v, u, rfl, r1, r2⟩ := r0.two
      cases r1.str; cases r2.str
      cases rx with
      | cons x1 xs => exact mt_partition pins s σ H _ _ _ _ Q I x1 xs ⟨_, _, rfl, rfl, hc.1, hc.2, fun p hp => q _ _ (Out.newT zl hp ⟨_, _, rfl, rfl, _, _, rfl, rfl, _, _, rfl, rfl, rfl⟩)⟩
    · cases h
  · cases h
def kJoin : List D → Option PV
  | [.str a, .lst ds] => match strsD ds with
    | some ys => if (ys.map (·.length)).sum + ys.length * a.length ≤ 16777216 then some (.val (.str (Txt.join a ys))) else none
    | none => none
  | [.str a, .tup ds] => match strsD ds with
    | some ys => if (ys.map (·.length)).sum + ys.length * a.length ≤ 16777216 then some (.val (.str (Txt.join a ys))) else none
    | none => none
  | _ => none
theorem bJoin (hk : X.K = e.K) : CallR X (.builtin "str.join") (rKB e kJoin) := by
  refine callK fun pins s σ H xs us Q Z ds r I rx zl r0 h q => ?_
  unfold kJoin at h
  split at h
  · split at h
    · rename_i ys hs
      split at h
      · cases h
        obtain ⟨v, u, rfl, r1, r2⟩ := r0.two
        cases r1.str
        obtain ⟨a, vs, rfl, h1, h2⟩ := r2.lst
        cases strsD_ok h2 hs
        cases rx with
        | cons x1 xs => exact mt_join pins s σ H _ _ _ _ Q I x1 xs ⟨_, _, _, rfl, rfl, .inl (SqL.of h1), by assumption, q _ _ (Out.scal fun _ _ => rfl)⟩
      · cases h
    · cases h
  · split at h
    · rename_i ys hs
      split at h
      · cases h
        obtain ⟨v, u, rfl, r1, r2⟩ := r0.two
        cases r1.str
        obtain ⟨a, vs, rfl, h1, h2⟩ := r2.tup
        cases strsD_ok h2 hs
        cases rx with
        | cons x1 xs => exact mt_join pins s σ H _ _ _ _ Q I x1 xs ⟨_, _, _, rfl, rfl, .inr (hk ▸ h1), by assumption, q _ _ (Out.scal fun _ _ => rfl)⟩
      · cases h
    · cases h
  · cases h
/-! ### str(x), int(text) -/
/-- an int's text -/
def itx (i : Int) : Str := Str.ofString (toString i)
def kStrC : List D → Option PV
  | [.int i] => if i.natAbs.log2 < 1920 then some (.val (.str (itx i))) else none
  | _ => none
theorem bStr : CallR X (.type "str") (rKB e kStrC) := by
  refine callK fun pins s σ H xs us Q Z ds r I rx zl r0 h q => ?_
  unfold kStrC at h
  split at h
  · split at h
    · cases h
      obtain ⟨v, rfl, r1⟩ := r0.one
      cases r1.int
      exact call_str_int pins s σ H _ us Q I rx ⟨_, rfl, by assumption, q _ _ (Out.scal fun _ _ => rfl)⟩
    · cases h
  · cases h
def kIntT : List D → Option PV
  | [.str a] => match PySem.intText? a with
    | some n => if a.length ≤ 640 then some (.val (.int n)) else none
    | none => none
  | _ => none
theorem bIntT : CallR X (.type "int") (rKB e kIntT) := by
  refine callK fun pins s σ H xs us Q Z ds r I rx zl r0 h q => ?_
  unfold kIntT at h
  split at h
  · split at h
    · rename_i n hn
      split at h
      · cases h
        obtain ⟨v, rfl, r1⟩ := r0.one
        cases r1.str
        exact call_int_str pins s σ H _ us Q I rx ⟨_, _, rfl, hn, by assumption, q _ _ (Out.scal fun _ _ => rfl)⟩
      · cases h
    · cases h
  · cases h
end
end PD

/-! PD21: f-strings, str of own, classmethods, constants of the module -/
namespace PD
open PySem PySem.Spec L2 L2H
/-! ### f-strings -/
def fmtK (p : PV) (G : List Sl) : R PV := match peek p G with
  | some (.str y) => if y.length ≤ sizeLine then .ok (.val (.str y)) G else .bad
  | some (.int i) => if i.natAbs.log2 < 1920 then .ok (.val (.str (itx i))) G else .bad
  | _ => .bad
def cFmt (fa : EF) : EF := fun G => (fa G).bind fmtK
def cJs : List EF → Str → EF
  | [], acc => fun G => .ok (.val (.str acc)) G
  | f :: fs, acc => fun G => (f G).bind fun pv G1 => match pv with
    | .val (.str y) => if (acc ++ y).length ≤ sizeLine then cJs fs (acc ++ y) G1 else .bad
    | _ => .bad
section
variable {e : Ev} {W : WX} {P : Pre} {σ : L2.St} {G G1 G2 : List Sl} {H H1 H2 : Hp} {Z : Zo} {X : Cx} {pos : Pos} {a b : Expr} {fa fb fo : EF} {fs : AF}
theorem de_fmt (ha : PE X a (tD e W fa)) : PE X (.FormattedValue a (-1) none pos) (tD e W (cFmt fa)) := (pe_fmt ha).imp fun σ H Q h => by
  refine tD_then h fun P G Z0 H0 H1 p v r q => ?_
  obtain ⟨S, st, t⟩ := r.tmp
  unfold fmtK at q
  split at q
  · rename_i y hp
    have := (peek_ok S t hp).str
    subst this
    split at q
    · exact .inl ⟨y, rfl, by assumption, q _ _ ⟨S, st, rfl⟩⟩
    · exact q.elim
  · rename_i i hp
    have := (peek_ok S t hp).int
    subst this
    split at q
    · exact .inr ⟨i, rfl, by assumption, q _ _ ⟨S, st, rfl⟩⟩
    · exact q.elim
  · exact q.elim
theorem tD_js : ∀ (ts : List EF) (acc : Str) (σ : L2.St) (H : Hp) (Q : VK), tD e W (cJs ts acc) σ H Q → tJs (ts.map fun f => tD e W f) acc σ H fun out H1 => Q (.str out) H1
  | [], acc, σ, H, Q, h => by
    obtain ⟨P, G, S, h⟩ := h
    exact h _ H ⟨S, Step.refl _ _, rfl⟩
  | f :: ts, acc, σ, H, Q, h => by
    refine tD_then h fun P G Z0 H0 H1 p v r q => ?_
    split at q
    · rename_i y
      obtain ⟨S, st, rfl⟩ := r
      split at q
      · exact ⟨y, rfl, by assumption, tD_js ts _ σ H1 Q (tD_at S st (q.mono (fun pv G2 k v H2 r => k v H2 (r.from_ st)) fun _ _ s => s))⟩
      · exact q.elim
    · exact q.elim
theorem dj_nil : PJ X [] (([] : List EF).map fun f => tD e W f) := .nil
theorem dj_cons {f : EF} {es : List Expr} {ts : List EF} (h : PE X a (tD e W f)) (r : PJ X es (ts.map fun f => tD e W f)) : PJ X (a :: es) ((f :: ts).map fun f => tD e W f) := .cons h r
theorem de_joined {v1 v2 : Expr} {rest : List Expr} {ts : List EF} (h : PJ X (v1 :: v2 :: rest) (ts.map fun f => tD e W f)) : PE X (.JoinedStr (v1 :: v2 :: rest) pos) (tD e W (cJs ts Str.empty)) := (pe_joined h).imp fun σ H Q h => tD_js ts _ σ H Q h
/-! ### one own def behind an operator, a built-in -/
/-- what the operator makes of the def's answer -/
structure FinK (e : Ev) (fin : R PV → R PV) (Kt : VK → VK) : Prop where
  ok : ∀ (W : WX) (P : Pre) (σ : L2.St) (Z : Zo) (H : Hp) (r : R PV) (Q : VK), PostR e W P σ Z H (fun pv G2 => ∀ v H2, Res e P σ Z H pv G2 v H2 → Q v H2) (fin r) → PostR e W P σ Z H (fun pv G2 => ∀ v H2, Res e P σ Z H pv G2 v H2 → Kt Q v H2) r
def strR (r : R PV) : R PV := match r with
  | .ok (.val (.str y)) G => .ok (.val (.str y)) G
  | .ex c ns ds G => .ex c ns ds G
  | _ => .bad
def kStr (Q : VK) : VK := fun v H2 => ∃ y, v = .str y ∧ Q v H2
theorem fin_id : FinK e (fun r => r) (fun Q => Q) := ⟨fun _ _ _ _ _ _ _ h => h⟩
theorem fin_str : FinK e strR kStr := ⟨fun W P σ Z H r Q q => by
  cases r with
  | bad => exact q.elim
  | ex c ns ds G2 => exact q
  | ok pv G2 =>
    unfold strR at q
    split at q
    · rename_i e1; cases e1
      intro v H2 r
      obtain ⟨S2, st2, rfl⟩ := r
      exact ⟨_, rfl, q _ H2 ⟨S2, st2, rfl⟩⟩
    · rename_i e1; cases e1
    · exact q.elim⟩
def lenR (r : R PV) : R PV := match r with
  | .ok (.val (.int n)) G => if 0 ≤ n ∧ n.natAbs < 9223372036854775808 then .ok (.val (.int n)) G else .bad
  | .ex c ns ds G => .ex c ns ds G
  | _ => .bad
def kLenO (Q : VK) : VK := fun v H2 => ∃ n, v = .int n ∧ (0 ≤ n ∧ n < 2 ^ 63) ∧ Q v H2
theorem fin_len : FinK e lenR kLenO := ⟨fun W P σ Z H r Q q => by
  cases r with
  | bad => exact q.elim
  | ex c ns ds G2 => exact q
  | ok pv G2 =>
    unfold lenR at q
    split at q
    · rename_i e1; cases e1
      split at q
      · rename_i hn
        intro v H2 r
        obtain ⟨S2, st2, rfl⟩ := r
        exact ⟨_, rfl, ⟨hn.1, by have := hn.2; have h3 : (2 : Int) ^ 63 = 9223372036854775808 := rfl; rw [h3]; omega⟩, q _ H2 ⟨S2, st2, rfl⟩⟩
      · exact q.elim
    · rename_i e1; cases e1
    · exact q.elim⟩
def blR (r : R PV) : R PV := match r with
  | .ok (.val (.bl b)) G => .ok (.val (.bl b)) G
  | .ex c ns ds G => .ex c ns ds G
  | _ => .bad
def kBlO (Q : VK) : VK := fun v H2 => ∃ b, v = .bl b ∧ Q v H2
theorem fin_bl : FinK e blR kBlO := ⟨fun W P σ Z H r Q q => by
  cases r with
  | bad => exact q.elim
  | ex c ns ds G2 => exact q
  | ok pv G2 =>
    unfold blR at q
    split at q
    · rename_i e1; cases e1
      intro v H2 r
      obtain ⟨S2, st2, rfl⟩ := r
      exact ⟨_, rfl, q _ H2 ⟨S2, st2, rfl⟩⟩
    · rename_i e1; cases e1
    · exact q.elim⟩
def cO1 (fin : R PV → R PV) (c : Nat) (m : MF) (fo : EF) : EF := fun G => (fo G).bind fun p G1 => if obC c p G1 = true then fin (runC m [.b] [p] G1) else .bad
theorem tD_O1 {fin : R PV → R PV} {Kt : VK → VK} {c : Nat} {m : MF} {Q : VK} (hf : FinK e fin Kt) (h : tD e W (cO1 fin c m fo) σ H Q) : tD e W fo σ H fun x H1 => InsR e c H1 x ∧ spD e 1 m [x] H1 (Kt Q) (WE W σ) := by
  refine tD_then h fun P G Z0 H0 H1 p v r q => ?_
  obtain ⟨S, st, t⟩ := r.tmp
  split at q
  · rename_i hob
    exact ⟨obC_ok S t hob, runC_ok (mds := [.b]) S (ps := [p]) (vs := [v]) ⟨_, _, rfl, t, rfl⟩ st rfl (hf.ok _ _ _ _ _ _ _ q)⟩
  · exact q.elim
/-- a built-in type | function that meets an own object -/
def OnO (X : Cx) (e : Ev) (W : WX) (Kt : VK → VK) (c : Nat) (m : MF) (f : Value → Sem Value) : Prop :=
  ∀ (pins : List (Addr × Obj)) (s : Shared) (σ : L2.St) (H : Hp) (q : Addr) (Q : VK), Inv X pins σ H s → InsR e c H (.ref q) → spD e 1 m [.ref q] H (Kt Q) (WE W σ) → wpAny (model X.prog X.w) X.A (f (.ref q)) (EP X pins σ Q) X.xe s
theorem de_tyO {fin : R PV → R PV} {Kt : VK → VK} {c : Nat} {m : MF} {T : String} {x : Str} {p : Pos} (hf : FinK e fin Kt) (ho : OnO X e W Kt c m fun v => call (.type T) [v]) (hg : Gl X x) (hn : X.mg x = none) (hv : bootBuiltins x = some (.type T)) (ha : PE X a (tD e W fo)) (hnn : x ≠ "__name__" := by decide) (hdb : (x == ("__debug__" : Str)) = false := by decide)
    (he : starEach [a] X.env = (false, eval a X.env) :: starEach [] X.env := by rfl) (hpl : (backTo pos (starEach [] X.env)).any (·.1) = false := by rfl) : PE X (.Call (.Name x p) [a] [] pos) (tD e W (cO1 fin c m fo)) := by
  refine ⟨fun pins s σ H Q I h => ?_⟩
  refine wpAny_Call_Name_kw (ld_blt I hg hn hv ?_ hnn hdb)
  have hA := (pa_cons ha pa_nil he).run pos pins s σ H (fun vs H1 => ∃ x, vs = [x] ∧ InsR e c H1 x ∧ spD e 1 m [x] H1 (Kt Q) (WE W σ)) I (by
    obtain ⟨P, G, S, h2⟩ := tD_O1 hf h
    exact ⟨P, G, S, h2.mono (fun pv G1 k v H1 r => ⟨v, rfl, k v H1 r⟩) fun _ _ s => s⟩)
  refine PyProof.Rows.callWith_type1 (thn hA fun us s1 ⟨vs, H1, I1, r1, x, ev, hi, q⟩ => ?_) he hpl
  subst ev
  obtain ⟨q1, dx, fs, rfl, hq⟩ := id hi
  cases r1 with
  | cons r1 rs =>
    cases rs
    cases r1
    exact ho pins s1 σ H1 q1 Q I1 hi q
theorem de_blO {fin : R PV → R PV} {Kt : VK → VK} {c : Nat} {m : MF} {T : String} {x : Str} {p : Pos} (hf : FinK e fin Kt) (ho : OnO X e W Kt c m fun v => call (.builtin T) [v]) (hg : Gl X x) (hn : X.mg x = none) (hv : bootBuiltins x = some (.builtin T)) (ha : PE X a (tD e W fo)) (hnn : x ≠ "__name__" := by decide) (hdb : (x == ("__debug__" : Str)) = false := by decide)
    (he : starEach [a] X.env = (false, eval a X.env) :: starEach [] X.env := by rfl) (hpl : (backTo pos (starEach [] X.env)).any (·.1) = false := by rfl) : PE X (.Call (.Name x p) [a] [] pos) (tD e W (cO1 fin c m fo)) := by
  refine ⟨fun pins s σ H Q I h => ?_⟩
  refine wpAny_Call_Name_kw (ld_blt I hg hn hv ?_ hnn hdb)
  have hA := (pa_cons ha pa_nil he).run pos pins s σ H (fun vs H1 => ∃ x, vs = [x] ∧ InsR e c H1 x ∧ spD e 1 m [x] H1 (Kt Q) (WE W σ)) I (by
    obtain ⟨P, G, S, h2⟩ := tD_O1 hf h
    exact ⟨P, G, S, h2.mono (fun pv G1 k v H1 r => ⟨v, rfl, k v H1 r⟩) fun _ _ s => s⟩)
  refine PyProof.Rows.callWith_builtin1 (thn hA fun us s1 ⟨vs, H1, I1, r1, x, ev, hi, q⟩ => ?_) he hpl
  subst ev
  obtain ⟨q1, dx, fs, rfl, hq⟩ := id hi
  cases r1 with
  | cons r1 rs =>
    cases rs
    cases r1
    exact ho pins s1 σ H1 q1 Q I1 hi q
/-- the callee runs two units below -/
def Clb2 (X : Cx) (W : WX) (f : Addr) (sp : Sp) : Prop :=
  ∀ (pins : List (Addr × Obj)) (s : Shared) (σ : L2.St) (H : Hp) (vs : List V) (us : List Value) (Q : VK), Inv X pins σ H s → Vals vs us → sp vs H Q (WE W σ) → wpAny (model X.prog X.w) X.A.in1.in1 (call (.ref f) us) (EP X pins σ Q) X.xe s
theorem clb2_of {f : Addr} {k : Nat} {fd : FuncData} {ps : List Str} {sp : Sp} (F : FnOk X.prog X.w X.K X.mg X.base (L2.CX X.prog X.w) k f fd ps sp) (hr : Room (k + 2) X.A) (hb : Binds X.K fd ps []) (tk : Takes X W) : Clb2 X W f sp := by
  intro pins s σ H vs us Q I r h
  have hl : us.length = ps.length := by rw [← r.length]; exact F.len _ _ _ _ h
  have b := hb s us I.kIn (by rw [List.append_nil]; exact hl)
  rw [List.append_nil] at b
  refine wpAny_call (codeAny_mono (F.run X.A.in1.in1 X.stack s H ⟨us, []⟩ us vs Q (WE W σ) (Room.in1 (k := k) (Room.in1 (k := k + 1) hr)) I.env0.in1.in1 b r h) fun r s' hq => ?_)
  cases r with
  | error e => exact passAt tk σ pins H s e s' I hq
  | ok fl =>
    cases fl with
    | ret u => exact I.after hq
    | next => exact False.elim hq
    | brk => exact False.elim hq
    | cont => exact False.elim hq
theorem clb2 {f : Addr} {k n : Nat} {m : MF} {ps : List Str} (B : Bd e X W) (q : Q_ X.prog X.w e X.mg X.base k f ps n m) (hr : Room (k + 2) X.A) : Clb2 X W f (spD e n m) := by
  obtain ⟨fd, F, b, _⟩ := q
  have hK := B.hK
  exact clb2_of (hK ▸ F) hr (hK ▸ b) B.tk
theorem ep_str {pins : List (Addr × Obj)} {Q : VK} {v : Value} {s : Shared} (h : EP X pins σ (kStr Q) v s) : PySem.W.StrBack (EP X pins σ Q) v s := by
  obtain ⟨x, H', I, r, y, rfl, q⟩ := h
  obtain ⟨t, rfl⟩ := r
  exact ⟨.str y, H', I, ⟨t, rfl⟩, q⟩
theorem ep_len {pins : List (Addr × Obj)} {Q : VK} {v : Value} {s : Shared} (h : EP X pins σ (kLenO Q) v s) : PySem.W.LenBack (EP X pins σ Q) v s := by
  obtain ⟨x, H', I, r, y, rfl, hn, q⟩ := h
  obtain ⟨t, rfl⟩ := r
  exact ⟨hn, .int y, H', I.tok _, ⟨_, rfl⟩, q⟩
variable {c : Nat} {m : MF} {f : Addr}
theorem oo_str (B : Bd e X W) (hm : Meth e.K (e.ga c) "__str__" f) (cb : Clb2 X W f (spD e 1 m)) : OnO X e W kStr c m fun v => call (.type "str") [v] := by
  intro pins s σ H q Q I hi h
  obtain ⟨q, dx, fs, e1, hq⟩ := hi
  cases e1
  obtain ⟨ox, od, J⟩ := inst_of I hq
  have KI := I.kIn
  rw [B.hK] at KI
  have hu := B.hu
  exact PySem.W.kso_call (by show X.A.units + 2 < cLine; omega) KI J hm.at_ hm.fn (wpAny_mono (cb pins s σ H [.ref q] [.ref q] _ I (.cons rfl .nil) h) (fun _ _ z => ep_str z) fun _ _ x => x)
theorem oo_len (B : Bd e X W) (hm : Meth e.K (e.ga c) "__len__" f) (cb : Clb1 X W f (spD e 1 m)) : OnO X e W kLenO c m fun v => call (.builtin "len") [v] := by
  intro pins s σ H q Q I hi h
  obtain ⟨q, dx, fs, e1, hq⟩ := hi
  cases e1
  obtain ⟨ox, od, J⟩ := inst_of I hq
  obtain ⟨m', hF⟩ := I.fr
  have hK := B.hK
  exact PySem.W.len_K hF I.ok.mod.kin J (hK ▸ hm.at_) (hK ▸ hm.fn) (wpAny_mono (cb pins s σ H [.ref q] [.ref q] _ I (.cons rfl .nil) h) (fun _ _ z => ep_len z) fun _ _ x => x)
end
end PD

/-! PD22: classmethods, a class in a local, tuples of the module -/
namespace PD
open PySem PySem.Spec L2 L2H
section
variable {e : Ev} {W : WX} {P : Pre} {σ : L2.St} {G G1 G2 : List Sl} {H H1 H2 : Hp} {Z : Zo} {X : Cx} {pos : Pos} {a b : Expr} {fa fb fo : EF} {fs : AF} {es : List Expr} {c n : Nat} {m : MF} {mds : List Md} {f : Addr} {x : Str} {apos p : Pos} {o : Expr}
/-- the callee's code -/
def ClbC (X : Cx) (W : WX) (f : Addr) (sp : Sp) : Prop :=
  ∀ (pins : List (Addr × Obj)) (s : Shared) (σ : L2.St) (H : Hp) (vs : List V) (us : List Value) (Q : VK), Inv X pins σ H s → Vals vs us → sp vs H Q (WE W σ) →
    codeAny (model X.prog X.w) X.A (.call (.ref f) ⟨us, []⟩) (fun r s' => match r with | .ok (.ret v) => EP X pins σ Q v s' | .ok _ => False | .error e => X.xe e s') s
theorem clbC_of {k : Nat} {fd : FuncData} {ps : List Str} {sp : Sp} (F : FnOk X.prog X.w X.K X.mg X.base (L2.CX X.prog X.w) k f fd ps sp) (hr : Room k X.A) (hb : Binds X.K fd ps []) (tk : Takes X W) : ClbC X W f sp := by
  intro pins s σ H vs us Q I r h
  have hl : us.length = ps.length := by rw [← r.length]; exact F.len _ _ _ _ h
  have b := hb s us I.kIn (by rw [List.append_nil]; exact hl)
  rw [List.append_nil] at b
  refine codeAny_mono (F.run X.A X.stack s H ⟨us, []⟩ us vs Q (WE W σ) hr I.env0 b r h) fun r s' hq => ?_
  cases r with
  | error e => exact passAt tk σ pins H s e s' I hq
  | ok fl =>
    cases fl with
    | ret u => exact I.after hq
    | next => exact False.elim hq
    | brk => exact False.elim hq
    | cont => exact False.elim hq
theorem clbC {k : Nat} {ps : List Str} (B : Bd e X W) (q : Q_ X.prog X.w e X.mg X.base k f ps n m) (hr : Room k X.A) : ClbC X W f (spD e n m) := by
  obtain ⟨fd, F, b, _⟩ := q
  have hK := B.hK
  exact clbC_of (hK ▸ F) hr (hK ▸ b) B.tk
/-! ### C.m(..), m a classmethod -/
/-- the text's facts -/
structure CM (e : Ev) (c : Nat) (m : Str) (g : Addr) : Prop where
  r : ClX.CRead e.K (e.ga c) (.type "type")
  k : ClX.CMet e.K (e.ga c) (.type "type") m (He.ma e.K (e.ga c) m) g
def cmB (c : Nat) (m : Str) (nm : Nat → Str) (K : PySem.W.Frag) : Bool := PySem.W.readsIn K (He.ga K (nm c)) (.type "type") && (decide (PySem.W.specialIn K (.ref (He.ga K (nm c))) "__getattribute__" = some (some (.builtin "type.__getattribute__"))) &&
  (He5.wrapB K (He.ga K (nm c)) "classmethod" "classmethod.__get__" m && PySem.W.fnIn K (He5.wf K (He.ga K (nm c)) "classmethod" m)))
theorem cm_ok {m : Str} (h : cmB c m e.nm e.K = true) : CM e c m (He5.wf e.K (e.ga c) "classmethod" m) := by
  obtain ⟨h1, h⟩ := He.ba h
  obtain ⟨h2, h⟩ := He.ba h
  obtain ⟨h3, h4⟩ := He.ba h
  exact ⟨⟨h1, of_decide_eq_true h2⟩, He5.cmet_of h3 h4⟩
def cCM (c : Nat) (m : MF) (mds : List Md) (fs : AF) : EF := fun G => (fs G).bind fun ps G1 => runC m (.b :: mds) (.val (.st c) :: ps) G1
theorem tD_cm {Q : VK} (hn : mds.length + 1 = n) (h : tD e W (cCM c m mds fs) σ H Q) : tA e W fs σ H fun vs H1 => spD e n m (.ref (e.ga c) :: vs) H1 Q (WE W σ) := tA_then h fun P G Z0 H0 H ps vs S st t q =>
  runC_ok S (ps := .val (.st c) :: ps) ⟨_, _, rfl, rfl, t⟩ st (by simp [← hn]) q
theorem de_cm {pl : Sem Bool} {g : Addr} (B : Bd e X W) (K : CM e c x g) (cb : ClbC X W g (spD e n m)) (hn : mds.length + 1 = n) (ho : PE X o (tD e W (cC (.st c)))) (ha : PA X (a :: es) (tA e W fs))
    (hst : starEach (a :: es) X.env = (false, eval a X.env) :: starEach es X.env := by rfl) (hpl : (backTo pos (starEach es X.env)).any (·.1) = false := by rfl)
    (ht : eval (.Call (.Attribute o x apos) (a :: es) [] pos) X.env = (do
      let ov ← eval o X.env
      standAt apos.atName
      let (f, first) ← holding [ov] (getMethod ov x pl)
      callWith pos f first (backTo pos (starEach (a :: es) X.env)) (backToKw pos (keywordEach [] X.env))) := by rfl) :
    PE X (.Call (.Attribute o x apos) (a :: es) [] pos) (tD e W (cCM c m mds fs)) := by
  refine ⟨fun pins s σ H Q I h => ?_⟩
  have hK := B.hK
  have h1 := tD_cm hn h
  have ho' : tD e W (cC (.st c)) σ H fun x H1 => x = .ref (e.ga c) ∧ tA e W fs σ H1 fun vs H2 => spD e n m (.ref (e.ga c) :: vs) H2 Q (WE W σ) := by
    obtain ⟨P, G, S, h⟩ := h1
    refine ⟨P, G, S, fun v H1 r => ?_⟩
    obtain ⟨S1, st1, rv⟩ := r
    exact ⟨rv, tA_at S1 st1 (h.mono (fun ps G2 k vs H2 S2 st2 t2 => k vs H2 S2 (st1.trans st2) t2) fun _ _ s => s)⟩
  refine PySem.W.methodCall_KW (pl := pl) (thn (ho.run pins s σ H _ I ho') fun u s1 ⟨x, H1, I1, rx, ex, q⟩ => ?_) ht
  subst ex
  obtain rfl : u = Value.ref (e.ga c) := rx
  refine ClX.getmethcm_ok I1 (hK ▸ K.r) (hK ▸ K.k) fun s2 I2 => ?_
  refine ClX.callwith_cm I2 (ClX.base_none I1 (Nat.le_refl _)) (hK ▸ K.k.fi) (thn (ha.run pos _ s2 σ H1 _ I2 q) fun us s3 ⟨vs, H2, I3, rv, q2⟩ => ⟨⟨ClX.pin_at I3, I3.kIn⟩, ?_⟩) hst hpl
  have z : wpAny (model X.prog X.w) X.A (call (.ref s1.heap.objs.size) us) (EP X ((s1.heap.objs.size, PySem.W.methodObj (.ref g) (.ref (e.ga c))) :: pins) σ Q) X.xe s3 :=
    wpAny_call (PySem.W.method_call (ClX.pin_at I3) (codeAny_mono (cb _ s3 σ H2 (.ref (e.ga c) :: vs) (.ref (e.ga c) :: us) Q I3 (.cons rfl rv) q2) fun r s' hq => by
      cases r with
      | error e => exact hq
      | ok fl => cases fl <;> exact hq))
  exact thn z fun _ _ y => ClX.unpinE y
/-! ### c(..), c a local that holds a class -/
def cMakeV (i c : Nat) (m : MF) (mds : List Md) (fs : AF) : EF := fun G => match G[i]? with
  | some (.imm (.st c')) => if c' = c then cMake c m mds fs G else .bad
  | _ => .bad
theorem de_makeV {i : Nat} (cb : ClbMk X W (e.ga c) (spD e n m)) (hn : mds.length + 1 = n) (hv : PE X (.Name x p) (tD e W (cVar i))) (hK : X.K = e.K) (hk : PySem.W.keepIn e.K (.ref (e.ga c)) = true) (ha : PA X (a :: es) (tA e W fs))
    (he : starEach (a :: es) X.env = (false, eval a X.env) :: starEach es X.env := by rfl) (hpl : (backTo pos (starEach es X.env)).any (·.1) = false := by rfl) : PE X (.Call (.Name x p) (a :: es) [] pos) (tD e W (cMakeV i c m mds fs)) := by
  refine ⟨fun pins s σ H Q I h => ?_⟩
  obtain ⟨P, G, S, h⟩ := h
  unfold cMakeV at h
  split at h
  · rename_i c' hi
    split at h
    · rename_i hc
      subst hc
      have h1 := tD_make hn (show tD e W (cMake c' m mds fs) σ H Q from ⟨P, G, S, h⟩)
      have h2 : tD e W (cVar i) σ H fun v H1 => v = .ref (e.ga c') ∧ tA e W fs σ H1 fun vs H1 => ∀ x dx, H1 x = none → H1 dx = none → dx ≠ x → spD e n m (.ref x :: vs) (upd (upd H1 dx (.own x)) x (.ins (e.ga c') dx [])) (fun v H2 => v = .non ∧ Q (.ref x) H2) (WE W σ) := by
        refine ⟨P, G, S, ?_⟩
        unfold cVar
        rw [hi]
        intro v H1 r
        obtain ⟨S1, st1, rv⟩ := r
        refine ⟨rv, ?_⟩
        have h1' := tD_make hn (show tD e W (cMake c' m mds fs) σ H1 Q from tD_at S1 st1 (h.mono (fun pv G2 k v H2 r => k v H2 (r.from_ st1)) fun _ _ s => s))
        exact h1'
      refine wpAny_Call_Name_kw (thn (hv.run pins s σ H _ I h2) fun u s1 ⟨v, H1, I1, r1, ev, q⟩ => ?_)
      subst ev
      obtain rfl : u = Value.ref (e.ga c') := r1
      refine PySem.W.callWith_K (h₀ := X.base) I.ok.mod.kin (hK ▸ hk) (thn (ha.run pos pins s1 σ H1 _ I1 q) fun us s2 ⟨vs, H2, I2, r, q⟩ => ⟨I2.kIn, ?_⟩) he hpl
      exact cb pins s2 σ H2 vs us Q I2 r q
    · exact h.elim
  · exact h.elim
/-! ### constants of the module -/
mutual
def conV (K : PySem.W.Frag) : D → Value → Bool
  | .non, .none => true
  | .bl b, .bool c => b == c
  | .int i, .int j _ => decide (i = j)
  | .str x, .str y _ => decide (x = y)
  | .tup ds, .ref a => (match K.lookup a with
    | some ⟨.type c, _, .seq its _, _⟩ => decide (c = "tuple") && (decide (its.size ≤ sizeLine) && conVs K ds its.toList)
    | _ => false)
  | .fz ds, .ref a => (match K.lookup a with
    | some ⟨.type c, none, .seq its _, _⟩ => decide (c = "list") && (decide (its.size ≤ sizeLine) && conVs K ds its.toList)
    | _ => false)
  | _, _ => false
def conVs (K : PySem.W.Frag) : List D → List Value → Bool
  | [], [] => true
  | d :: ds, v :: vs => conV K d v && conVs K ds vs
  | _, _ => false
end
mutual
theorem conV_ok : ∀ (d : D) (v : Value), conV e.K d v = true → ∃ x, RelV x v ∧ ∀ Z H, Rp e Z H d x
  | .non, v, h => by
    cases v <;> first
      | (simp [conV] at h; done)
      | exact ⟨.non, rfl, fun _ _ => rfl⟩
  | .bl b, v, h => by
    cases v <;> first
      | (simp [conV] at h; done)
      | (simp [conV] at h; subst h; exact ⟨.bl _, rfl, fun _ _ => rfl⟩)
  | .int b, v, h => by
    cases v <;> first
      | (simp [conV] at h; done)
      | (simp [conV] at h; subst h; exact ⟨.int _, ⟨_, rfl⟩, fun _ _ => rfl⟩)
  | .str b, v, h => by
    cases v <;> first
      | (simp [conV] at h; done)
      | (simp [conV] at h; subst h; exact ⟨.str _, ⟨_, rfl⟩, fun _ _ => rfl⟩)
  | .tup ds, v, h => by
    cases v with
    | ref a =>
      simp only [conV] at h
      split at h
      · rename_i c' dd its n sl q
        obtain ⟨h1, h⟩ := He.ba h
        obtain ⟨h2, h3⟩ := He.ba h
        obtain ⟨xs, r, hr⟩ := conVs_ok ds _ h3
        have hc := of_decide_eq_true h1
        subst hc
        exact ⟨.ref a, rfl, fun Z H => ⟨a, xs, rfl, .inr ⟨_, its, n, q, rfl, rfl, of_decide_eq_true h2, r⟩, hr Z H⟩⟩
      · cases h
    | _ => simp [conV] at h
  | .fz ds, v, h => by
    cases v with
    | ref a =>
      simp only [conV] at h
      split at h
      · rename_i c' its n sl q
        obtain ⟨h1, h⟩ := He.ba h
        obtain ⟨h2, h3⟩ := He.ba h
        obtain ⟨xs, r, hr⟩ := conVs_ok ds _ h3
        have hc := of_decide_eq_true h1
        subst hc
        exact ⟨.ref a, rfl, fun Z H => ⟨a, xs, rfl, .inr ⟨_, its, n, q, rfl, rfl, rfl, of_decide_eq_true h2, r⟩, hr Z H⟩⟩
      · cases h
    | _ => simp [conV] at h
  | .lst _, v, h => by cases v <;> simp [conV] at h
  | .dk _ _, v, h => by cases v <;> simp [conV] at h
  | .dt _ _, v, h => by cases v <;> simp [conV] at h
  | .obj _ _ _, v, h => by cases v <;> simp [conV] at h
  | .st _, v, h => by cases v <;> simp [conV] at h
  | .ty _, v, h => by cases v <;> simp [conV] at h
theorem conVs_ok : ∀ (ds : List D) (vs : List Value), conVs e.K ds vs = true → ∃ xs, Vals xs vs ∧ ∀ Z H, Rps e Z H ds xs
  | [], vs, h => by
    cases vs with
    | nil => exact ⟨[], .nil, fun _ _ => rfl⟩
    | cons v vs => simp [conVs] at h
  | d :: ds, vs, h => by
    cases vs with
    | nil => simp [conVs] at h
    | cons v vs =>
      simp only [conVs] at h
      obtain ⟨h1, h2⟩ := He.ba h
      obtain ⟨x, r, hr⟩ := conV_ok d v h1
      obtain ⟨xs, rs, hrs⟩ := conVs_ok ds vs h2
      exact ⟨x :: xs, .cons r rs, fun Z H => ⟨x, xs, rfl, hr Z H, hrs Z H⟩⟩
end
def conB (x : Str) (d : D) (_ : Nat → Str) (K : PySem.W.Frag) : Bool := conV K d (.ref (He.ga K x))
theorem de_gcon {d : D} (hm : X.mg x = some (.ref (He.ga e.K x))) (hc : conB x d e.nm e.K = true) (hg : Gl X x := by rfl) (hd : (x == ("__debug__" : Str)) = false := by decide) : PE X (.Name x pos) (tD e W (cC d)) := by
  obtain ⟨v, r, hr⟩ := conV_ok (e := e) d _ hc
  exact de_glob (v := v) hg hm r hr hd
end
end PD

/-! PDt: texts as lists of signs -/
namespace PD
open PySem PySem.Spec L2 TL
section
variable {x y : Str} {c : Nat}
theorem pre_one {l : List Nat} {i : Nat} : TL.pre [c] (l.drop i) = true ↔ l[i]? = some c := by
  unfold TL.pre
  cases q : l.drop i with
  | nil =>
    have : l.length ≤ i := by simpa using q
    simp [List.getElem?_eq_none this]
  | cons a r =>
    have : l[i]? = some a := by
      have h := congrArg List.head? q
      simpa [List.head?_drop] using h
    rw [this]
    simp
theorem find_cut {a b : List Nat} (hy : tl y = [c]) (hx : tl x = a ++ c :: b) (ha : c ∉ a) : Txt.find x y = (a.length : Int) := by
  have hne : tl y ≠ [] := by rw [hy]; simp
  unfold Txt.find
  have at_ : ∀ i, StrLaws.At x y x.length i ↔ (tl x)[i]? = some c := fun i => by rw [at_iff hne, hy, pre_one]
  rcases StrLaws.occ_head x y 1 (Nat.le_refl _) with ⟨h, h2⟩ | ⟨i, r, h, h2, h3⟩
  · exact absurd ((at_ a.length).mpr (by rw [hx]; simp)) (h2 _)
  · rw [h]
    have k := (at_ i).mp h2
    have : i = a.length := by
      rcases Nat.lt_trichotomy i a.length with z | z | z
      · rw [hx, List.getElem?_append_left z] at k
        exact absurd (List.mem_of_getElem? k) ha
      · exact z
      · exact absurd ((at_ a.length).mpr (by rw [hx]; simp)) (h3 _ z)
    subst this
    rfl
theorem find_no (hy : tl y = [c]) (hx : c ∉ tl x) : Txt.find x y = -1 := by
  have hne : tl y ≠ [] := by rw [hy]; simp
  unfold Txt.find
  have at_ : ∀ i, StrLaws.At x y x.length i ↔ (tl x)[i]? = some c := fun i => by rw [at_iff hne, hy, pre_one]
  rcases StrLaws.occ_head x y 1 (Nat.le_refl _) with ⟨h, h2⟩ | ⟨i, r, h, h2, h3⟩
  · rw [h]
  · exact absurd (List.mem_of_getElem? ((at_ i).mp h2)) hx
/-- a list cut at its first c -/
theorem cut_first {l : List Nat} (h : c ∈ l) : ∃ a b, l = a ++ c :: b ∧ c ∉ a := by
  induction l with
  | nil => cases h
  | cons d l ih =>
    by_cases hd : d = c
    · exact ⟨[], l, by simp [hd], by simp⟩
    · obtain ⟨a, b, rfl, h2⟩ := ih (by simpa [Ne.symm hd] using h)
      exact ⟨d :: a, b, rfl, by simp [h2, Ne.symm hd]⟩
theorem split_no (hy : tl y = [c]) (hk : y.cps.all (· < 256) = true) (hx : c ∉ tl x) : Txt.split x y = [x] := by
  refine map_tl_inj ?_
  rw [split_spl _ y (by rw [hy]; simp) (kind_ok hk), hy, spl_last1 hx]
  rfl
theorem split_cut {a b : List Nat} (hy : tl y = [c]) (hk : y.cps.all (· < 256) = true) (hx : tl x = a ++ c :: b) (ha : c ∉ a) : Txt.split x y = ⟨a.toArray⟩ :: Txt.split ⟨b.toArray⟩ y := by
  refine map_tl_inj ?_
  rw [split_spl _ y (by rw [hy]; simp) (kind_ok hk), hy, hx, show a ++ c :: b = a ++ ([c] ++ b) from rfl, spl_part1 ha, List.map_cons, split_spl _ y (by rw [hy]; simp) (kind_ok hk), hy]
  rfl
theorem in_one {a : Str} (ha : tl a = [c]) : (Builtin.Str.occurrences x a 0 x.length 1).isEmpty = !decide (c ∈ tl x) := by
  have e : a = ⟨#[c]⟩ := ext_tl (by rw [ha])
  subst e
  have := StrLaws.found_one x c
  cases h : (Builtin.Str.occurrences x ⟨#[c]⟩ 0 x.length 1).isEmpty <;> simp_all
end
/-! ### digits -/
open PySem.NumText (AllDigits digitsVal)
instance (l : List Nat) : Decidable (AllDigits l) := by unfold AllDigits; infer_instance
/-- the written form of a number of at most 13 digits -/
def Wf (l : List Nat) : Prop := l ≠ [] ∧ l.length ≤ 13 ∧ ¬ (1 < l.length ∧ l.head? = some 48) ∧ AllDigits l
instance (l : List Nat) : Decidable (Wf l) := by unfold Wf; infer_instance
def num (l : List Nat) : Int := if Wf l then (digitsVal l : Nat) else -1
theorem num_ge (l : List Nat) : -1 ≤ num l := by
  unfold num
  split <;> omega
theorem chr_back {c : Nat} (h : 48 ≤ c ∧ c ≤ 57) : (Char.ofNat c).toNat = c := by
  have : ∀ c, c < 58 → (Char.ofNat c).toNat = c := by decide
  exact this c (by omega)
theorem chrs_back : ∀ {l : List Nat}, AllDigits l → (l.map Char.ofNat).map Char.toNat = l
  | [], _ => rfl
  | c :: l, h => by
    rw [List.map_cons, List.map_cons, chr_back (h c List.mem_cons_self), chrs_back (h.tail)]
theorem text_num {l : List Nat} (h : Wf l) : tl (itx ((digitsVal l : Nat) : Int)) = l := by
  obtain ⟨h1, h2, h3, h4⟩ := h
  show (PySem.Str.ofString (toString ((digitsVal l : Nat) : Int))).cps.toList = l
  rw [PySem.W.KIN.signs_num]
  cases l with
  | nil => exact absurd rfl h1
  | cons c r =>
    rw [PySem.NumText.toDigits_digitsVal r.length (c :: r) rfl h4 ?_, chrs_back h4]
    cases r with
    | nil => exact .inl rfl
    | cons d r =>
      refine .inr ⟨c, _, rfl, ?_⟩
      have := h4 c List.mem_cons_self
      have : c ≠ 48 := fun z => h3 ⟨by simp, by simp [z]⟩
      omega
theorem itx_len {n : Int} (h : 0 ≤ n) (h2 : n < 10000000000000) : (itx n).length ≤ 13 := PyProof.Rows.toString_length_le h (by decide) (by
  have e : (10 : Int) ^ 13 = 10000000000000 := by decide
  rw [e]; exact h2)
theorem log_ok {n : Int} (h : n.natAbs < 2199023255552) : n.natAbs.log2 < 1920 := by
  have e : (2 : Nat) ^ 41 = 2199023255552 := by decide
  by_cases z : n.natAbs = 0
  · rw [z]; decide
  · have := (Nat.log2_lt (k := 41) z).mpr (by rw [e]; exact h)
    omega
end PD

/-! PD23: what these combinators compute, for simp -/
namespace PD
open PySem PySem.Spec L2 L2H
section
variable {fa fb fc fo : EF} {fs : AF} {f g : SF} {t u : TF} {G : List Sl} {i j c : Nat} {d : D} {k : List D → Option PV} {x y : Str} {m : MF} {mds : List Md}
@[simp] theorem cMB_ap {T : String} : cMB T k fo fs G = (fo G).bind fun p G1 => if hasTy T (peek p G1) = true then (fs G1).bind fun ps G2 => finB k (p :: ps) G2 else .bad := rfl
@[simp] theorem finB_ap {ps : List PV} : finB k ps G = match peeks ps G with
  | some ds => outPV (k ds) G
  | none => .bad := by
  cases hp : peeks ps G with
  | none => simp [finB, hp]
  | some ds =>
    cases hk : k ds with
    | none => simp [finB, outPV, hp, hk]
    | some r => cases r <;> simp [finB, outPV, hp, hk]
@[simp] theorem hasTy_str : hasTy "str" (some (.str x)) = true := rfl
@[simp] theorem kSplit_ap : kSplit [.str x, .str y] = if (y.length == 0) = false ∧ x.length + 2 ≤ sizeLine then some (.fr (.lst ((Txt.split x y).map D.str))) else none := rfl
@[simp] theorem kFind_ap : kFind [.str x, .str y] = some (.val (.int (Txt.find x y))) := rfl
@[simp] theorem kUpper_ap : kUpper [.str x] = if x.length ≤ 5592405 then some (.val (.str (Txt.upper x))) else none := rfl
@[simp] theorem kLower_ap : kLower [.str x] = if x.length ≤ 5592405 then some (.val (.str (Txt.lower x))) else none := rfl
@[simp] theorem kPartition_ap : kPartition [.str x, .str y] = if (y.length == 0) = false ∧ x.length ≤ sizeLine then some (.val (.tup [.str (Txt.partition x y).1, .str (Txt.partition x y).2.1, .str (Txt.partition x y).2.2])) else none := rfl
@[simp] theorem kJoin_ap {ds : List D} : kJoin [.str x, .lst ds] = match strsD ds with
    | some ys => if (ys.map (·.length)).sum + ys.length * x.length ≤ 16777216 then some (.val (.str (Txt.join x ys))) else none
    | none => none := rfl
@[simp] theorem kStr_int {n : Int} : kStrC [.int n] = if n.natAbs.log2 < 1920 then some (.val (.str (itx n))) else none := rfl
@[simp] theorem kIntT_ap : kIntT [.str x] = match PySem.intText? x with
    | some n => if x.length ≤ 640 then some (.val (.int n)) else none
    | none => none := rfl
@[simp] theorem cFmt_ap : cFmt fa G = (fa G).bind fmtK := rfl
@[simp] theorem fmtK_ap {p : PV} : fmtK p G = match peek p G with
  | some (.str y) => if y.length ≤ sizeLine then .ok (.val (.str y)) G else .bad
  | some (.int i) => if i.natAbs.log2 < 1920 then .ok (.val (.str (itx i))) G else .bad
  | _ => .bad := rfl
@[simp] theorem cJs_nil : cJs [] x G = .ok (.val (.str x)) G := rfl
@[simp] theorem cJs_cons {ts : List EF} : cJs (fa :: ts) x G = (fa G).bind fun pv G1 => match pv with
    | .val (.str y) => if (x ++ y).length ≤ sizeLine then cJs ts (x ++ y) G1 else .bad
    | _ => .bad := rfl
@[simp] theorem cO1_ap {fin : R PV → R PV} : cO1 fin c m fo G = (fo G).bind fun p G1 => if obC c p G1 = true then fin (runC m [.b] [p] G1) else .bad := rfl
@[simp] theorem strR_ok : strR (.ok (.val (.str x)) G) = .ok (.val (.str x)) G := rfl
@[simp] theorem strR_ex {ns : List Nat} {ds : List D} : strR (.ex c ns ds G) = .ex c ns ds G := rfl
@[simp] theorem lenR_ok {n : Int} : lenR (.ok (.val (.int n)) G) = if 0 ≤ n ∧ n.natAbs < 9223372036854775808 then .ok (.val (.int n)) G else .bad := rfl
@[simp] theorem blR_ok {b : Bool} : blR (.ok (.val (.bl b)) G) = .ok (.val (.bl b)) G := rfl
@[simp] theorem cCM_ap : cCM c m mds fs G = (fs G).bind fun ps G1 => runC m (.b :: mds) (.val (.st c) :: ps) G1 := rfl
@[simp] theorem cMakeV_ap : cMakeV i c m mds fs G = match G[i]? with
  | some (.imm (.st c')) => if c' = c then cMake c m mds fs G else .bad
  | _ => .bad := rfl
theorem kAdd_strs (h : x.length + y.length ≤ sizeLine) : kAdd (.str x) (.str y) = some (.val (.str (x ++ y))) := if_pos h
theorem kSl_strs {lo hi : Option Int} (h : x.length ≤ sizeLine) : kSl (.str x) lo hi = some (.val (.str (cutS x lo hi))) := if_pos h
theorem kLen_strs (h : x.length ≤ sizeLine) : kLen [.str x] = some (.val (.int x.length)) := if_pos h
theorem kIx_strs {i : Int} (h : x.length ≤ sizeLine) : kIx (.str x) (.int i) = (atI x.cps.toList i).map fun c => .val (.str ⟨#[c]⟩) := if_pos h
end
end PD

/-! PD24: sorted({.. for .. in ..}) of ints, of pairs of ints -/
namespace PD
open PySem PySem.Spec L2 L2H PyProof.Rows PpSet
/-! ### set.add, told by what it leads to -/
/-- set.add(D, y) at H leads to one of Nx -/
def AddR (P : Program) (w : World) (K : PySem.W.Frag) (D : Addr) (y : V) (H : Hp) (Nx : Hp → Prop) : Prop :=
  ∀ (X : Cx), X.prog = P → X.w = w → X.K = K → X.A.units + 64 < cLine → ∀ (pins : List (Addr × Obj)) (s : Shared) (σ : L2.St) (u : Value) (E : Value → Shared → Prop) (Q : Value → Shared → Prop), Inv X pins σ H s → RelV y u →
    (∀ s' o', Nx (upd H D o') → Inv X pins σ (upd H D o') s' → Q .none s') → wpAny (model X.prog X.w) X.A (call (.builtin "set.add") [.ref D, u]) Q E s
theorem addT {P : Program} {w : World} {K : PySem.W.Frag} {D b : Addr} {H : Hp} {k : List Int} {L : List (Addr × List Int)} {Nx : Hp → Prop} (hD : H D = some (SetTO P w D L)) (hL : ∀ p ∈ L, SqT K H p.1 (p.2.map V.int)) (hx : SqT K H b (k.map V.int)) (few : L.length + 1 < 64)
    (h : ∀ L', (k ∈ L.map (·.2) → L' = L) → (k ∉ L.map (·.2) → L'.Perm ((b, k) :: L)) → Nx (upd H D (SetTO P w D L'))) : AddR P w K D (.ref b) H Nx := by
  intro X eP ew eK hu pins s σ u E Q I ru hq
  subst eP ew eK
  cases ru
  have R0 : SetT0 X.prog X.w s.heap D L := (I.hok D _ hD).1
  obtain ⟨es, ep, t, R⟩ := R0.full fun p hp => I.isT (hL p hp)
  have hk := I.isT hx
  obtain ⟨o, ho, hex, hd⟩ := R.ob
  have hT : s.TypeIs (.ref D) "set" := ⟨o, ho, hex.1⟩
  refine wpAny_call_entry F.slot_set_add hT F.entry_set_add ?_ (F.args_set_add_2 _ _)
  unfold Builtin.«set.add» Builtin.Frozenset.oneOther
  simp only [List.isEmpty_nil, bind_assoc]
  unfold Builtin.Frozenset.addrOf setAdd
  refine wpAny_bind (wpAny_pure ?_)
  try dsimp only
  refine wpAny_bind (wpAny_pure ?_)
  try dsimp only
  refine wpAny_bind ?_
  refine wpAny_holding ?_
  refine wpAny_bind (wpAny_pyHash_tuple (by show X.A.units + 1 < cLine; omega) hk ?_)
  refine add_at (s := { s with toks := s.toks + (k.length + 1) }) (R.keep (fun _ e => e) R.tup) hk (by show X.A.units + 1 < cLine; omega) few fun b' h' L' es' ep' t' sb R' c1 c2 => ?_
  show wpAny _ _ (ret Value.none) _ _ _
  have he : ∃ u, h'.get? D = some u := by
    obtain ⟨o, ho, _⟩ := R'.ob
    exact ⟨o, ho⟩
  refine wpAny_pure ⟨_, rfl, hq _ (SetTO X.prog X.w D L') (h L' c1 c2) ?_⟩
  exact I.write (e := D) (t' := s.toks + (k.length + 1)) (by rw [hD]; trivial) (.inl rfl) (fun b u hb hu => (sb.2 b hb).trans hu) he (setTO_new R'.t0)
theorem addI {P : Program} {w : World} {K : PySem.W.Frag} {D : Addr} {H : Hp} {k : Int} {S : Int → Bool} {n : Nat} {Nx : Hp → Prop} (hD : H D = some (SetO w D S n)) (room : n + 1 < scanBound)
    (h : Nx (upd H D (SetO w D (fun j => S j || decide (j = k)) (if S k = true then n else n + 1)))) : AddR P w K D (.int k) H Nx := by
  intro X eP ew eK hu pins s σ u E Q I ru hq
  subst eP ew eK
  obtain ⟨tk, rfl⟩ := ru
  have R := setO_get I hD
  refine setR_add R room fun h' sb new => ?_
  have he : ∃ u, h'.get? D = some u := by
    have ⟨o, _, _, _, ho, _⟩ := new
    exact ⟨o, ho⟩
  exact hq _ _ h (I.write (e := D) (t' := s.toks + 1) (by rw [hD]; trivial) (.inl rfl) (fun b u hb hu => (sb.2 b hb).trans hu) he (setO_new new))
/-! ### {elt for target in iter if ..}: D the new set -/
def tScU (P : Program) (w : World) (K : PySem.W.Frag) (o0 : Addr → HO) (wi : TI) (g : TG) (tt : TT) (te : TE) (vs : List Nat) : TE := fun σ H Q => wi σ H fun J H1 => ∀ D, H1 D = none → ∃ W : Nat → Nat → Hp → Prop, (∃ m, W 0 m (upd H1 D (o0 D))) ∧ ∀ i m H, W i m H →
  (J.stop i H ∧ Q (.ref D) H) ∨ (J.go i H ∧ ∃ Nx : Hp → Prop, (∀ H', Nx H' → ∃ m', m' < m ∧ W (i + 1) m' H') ∧ ∀ x H', J.yld i H x H' → g x (wipe σ vs) H' fun σ2 H2 => wipe σ2 vs = wipe σ vs ∧ tt σ2 H2 fun b H3 =>
    if b = true then te σ2 H3 fun y H4 => AddR P w K D y H4 Nx else Nx H3)
section
variable {X : Cx}
theorem scU_core {pins : List (Addr × Obj)} {s : Shared} {σ : L2.St} {H : Hp} {Q : VK} {elt tg iter : Expr} {ifs : List Expr} {scope : Scope} {own : List (PySem.Str × Nat)} {pos pos' : Pos} {wi : TI} {g : TG} {tt : TT} {te : TE} {o0 : Addr → HO} {use : Option (Value → Sem Unit)} {Qf : Value → Shared → Prop}
    (h0 : ∀ (H : Hp) (h : Heap) (D : Addr), h.get? D = some { cls := .type "set", dict := none, data := .set #[] 0 (.fresh 0 0 (!X.w.params.followText "set-order")) } → ObjOk X.prog X.w H h D (o0 D)) (hu : X.A.units + 64 < cLine) (hc : X.calm = true) (hN : X.N.Nodup) (I : Inv X pins σ H s) (hi : PI X tg iter wi) (ok : BlkOk X.N X.env.scope scope own)
    (hg : ∀ (s : Shared) (H : Hp) (C : Addr) (cl : List (PySem.Str × Addr)) (fp : List Addr), PG (X.blk s H scope (compEnvC scope cl C X.env) fp) tg g) (ht : ∀ (s : Shared) (H : Hp) (C : Addr) (cl : List (PySem.Str × Addr)) (fp : List Addr), PTs (X.blk s H scope (compEnvC scope cl C X.env) fp) ifs tt)
    (he : ∀ (s : Shared) (H : Hp) (C : Addr) (cl : List (PySem.Str × Addr)) (fp : List Addr), PE (X.blk s H scope (compEnvC scope cl C X.env) fp) elt te) (hs : ∀ x, foldedSetIterable iter X.env x = pure x)
    (h : tScU X.prog X.w X.K o0 wi g tt te (own.map (·.2)) σ H Q)
    (hRR : ∀ D C s' m H', Inv X pins σ H' s' → Q (.ref D) H' → s'.heap.Ns C m → FpOk X pins H' C → compPost (model X.prog X.w) X.A X.xe use Qf (.ref D) C (.ok .next) s') :
    wpAny (model X.prog X.w) X.A (comprehension (.SetComp elt [⟨tg, iter, ifs, 0⟩] scope pos) scope X.env pos' (newSet (.type "set")) false (eval iter X.env) use) Qf X.xe s := by
  have hfree : ∀ y ∈ scope.names, y.2 = .free → ∃ c, X.env.cells.lookup y.1 = some c := fun y hy e => by
    rcases ok.free y hy e with k | k
    · exact I.ok.has _ (.inl k)
    · exact I.ok.has _ (.inr k)
  refine wpAny_comprehension_free (use := use) rfl hs (closure_ok hfree) ok.kind (fun y hy e => by rw [ok.uniq y hy, e])
    (thn (hi.run pins s σ H _ I h) fun xv s1 hx => thn hx fun itv s2 h2 => ?_)
  obtain ⟨it, fp, tn, J, H2, e, I2, T, st2, f2, q⟩ := h2
  subst e
  refine newSet_ok (newEnv_comp ?_)
  generalize hD : s2.heap.objs.size = D
  have hDn : H2 D = none := I2.hok.fresh (Nat.le_of_eq hD)
  obtain ⟨W, ⟨m0, w0⟩, turn⟩ := q D hDn
  -- the new list
  generalize hs3 : ({ s2 with heap := s2.heap.push { cls := .type "set", dict := none, data := .set #[] 0 (.fresh 0 0 (!X.w.params.followText "set-order")) } } : Shared) = s3
  have I3 : Inv X pins σ (upd H2 D (o0 D)) s3 := by
    rw [← hs3]
    refine I2.laid (t' := s2.toks) (fun b o e => Heap.get?_push_of_some _ e) (Nat.le_of_eq hD) ?_
    rw [← hD]
    exact h0 _ _ _ (Heap.get?_push_size _ rfl)
  have h3 : s3.heap = s2.heap.push { cls := .type "set", dict := none, data := .set #[] 0 (.fresh 0 0 (!X.w.params.followText "set-order")) } := by rw [← hs3]
  have sz : ∀ b ∈ fp, b < s2.heap.objs.size := fun b hb => by
    obtain ⟨o, e, _⟩ := T.obj _ _ st2 b hb
    exact Heap.lt_size e
  have f3 : ∀ b ∈ fp, FpOk X pins (upd H2 D (o0 D)) b ∧ b < s3.heap.objs.size := fun b hb => by
    have hlt := sz b hb
    refine ⟨⟨?_, (f2 b hb).2⟩, by rw [h3, Heap.size_push]; exact Nat.lt_succ_of_lt hlt⟩
    rw [upd_ne (by rw [← hD]; exact Nat.ne_of_lt hlt)]
    exact (f2 b hb).1
  have st3 : tn 0 s3.heap := T.keep _ _ _ st2 fun b _ o e => by rw [h3]; exact Heap.get?_push_of_some _ e
  have I4 := block_start I3 ok hN f3
  have pg := hg s3 (upd H2 D (o0 D)) s3.heap.objs.size (cellsFrom (s3.heap.objs.size + 1) scope.names (cloFrom X.env.cells scope.names [])) fp
  have pt := ht s3 (upd H2 D (o0 D)) s3.heap.objs.size (cellsFrom (s3.heap.objs.size + 1) scope.names (cloFrom X.env.cells scope.names [])) fp
  have pe := he s3 (upd H2 D (o0 D)) s3.heap.objs.size (cellsFrom (s3.heap.objs.size + 1) scope.names (cloFrom X.env.cells scope.names [])) fp
  show codeAny _ _ (.compStart (.SetComp elt [⟨tg, iter, ifs, 0⟩] scope pos) 0 (.ref it) (.ref D) (compEnvC scope (cellsFrom (s3.heap.objs.size + 1) scope.names (cloFrom X.env.cells scope.names [])) s3.heap.objs.size X.env)) (compPost (model X.prog X.w) X.A X.xe use Qf (.ref D) s3.heap.objs.size) { s3 with heap := pushCells (s3.heap.push { cls := .type "dict", data := .dict #[] }) scope.names }
  have nfp : ∀ b ∈ fp, (upd H2 D (o0 D)) b = none := fun b hb => (f3 b hb).1.1
  generalize hce : compEnvC scope (cellsFrom (s3.heap.objs.size + 1) scope.names (cloFrom X.env.cells scope.names [])) s3.heap.objs.size X.env = ce at I4 pg pt pe ⊢
  have cL : ce.locals = s3.heap.objs.size := by subst hce; rfl
  generalize hH3 : upd H2 D (o0 D) = H3 at I3 I4 pg pt pe w0 nfp f3
  generalize hs4 : ({ s3 with heap := pushCells (s3.heap.push { cls := .type "dict", data := .dict #[] }) scope.names } : Shared) = s4 at I4 ⊢
  have st4 : tn 0 s4.heap := T.keep _ _ _ st3 fun b _ o e => by rw [← hs4]; exact pushCells_keeps _ _ _ _ (Heap.get?_push_of_some _ e)
  have stat : ∀ {σ' : L2.St} {H' : Hp} {s' : Shared}, Inv (X.blk s3 H3 scope ce fp) [] σ' H' s' → (∀ b ∈ fp, H' b = none) → ∀ b ∈ fp, FpOk (X.blk s3 H3 scope ce fp) [] H' b := fun {σ' H' s'} I' hn b hb =>
    ⟨hn b hb, (I'.ok.exf b hb).1, I'.ok.exfs b hb, .inl hb, fun x c e => (I'.ok.exf b hb).2 x c e, fun p hp => absurd (show p ∈ ([] : List (Addr × Obj)) ++ [] from hp) (by simp)⟩
  have loop : codeAny (model X.prog X.w) X.A (.compLoop (.SetComp elt [⟨tg, iter, ifs, 0⟩] scope pos) 0 (.ref it) (.ref D) ce) (compPost (model X.prog X.w) X.A X.xe use Qf (.ref D) s3.heap.objs.size) s4 := by
    refine compLoopS_any (fun n s' => ∃ i H', Inv (X.blk s3 H3 scope ce fp) [] (wipe σ (own.map (·.2))) H' s' ∧ tn i s'.heap ∧ (∀ b ∈ fp, H' b = none) ∧ W i n H') ?_ m0 ⟨0, H3, I4, st4, nfp, w0⟩
    rintro n s5 ⟨i, H5, I5, st5, n5, w5⟩
    rcases turn i n H5 w5 with ⟨stop, qq⟩ | ⟨go, Nx, hNx, step⟩
    · have td := T.done (X.blk s3 H3 scope ce fp) rfl rfl rfl hc i [] s5 _ H5 (fun _ _ => False) I5 (stat I5 n5) st5 stop
      refine thnF td fun r s6 ⟨hr, I6⟩ => ?_
      subst hr
      -- back in the def's context
      have I7 : Inv X pins σ H5 s6 := I3.call' (ch := fp) I6.os I6.base I6.hok I6.bare fun b hb => ⟨(f3 b hb).1.2.2.2.1, (f3 b hb).1.2.1, (f3 b hb).1.2.2.2.2.1, (f3 b hb).1.2.2.2.2.2⟩
      have nC : H5 s3.heap.objs.size = none := by
        have z : H5 ce.locals = none := I6.free
        rw [cL] at z
        exact z
      obtain ⟨m, hn, _⟩ := I6.loc
      have hn : s6.heap.Ns ce.locals m := hn
      rw [cL] at hn
      exact hRR D s3.heap.objs.size s6 m H5 I7 qq hn (I3.fpOk (Nat.le_refl _) nC)
    · have ti := T.item (X.blk s3 H3 scope ce fp) rfl rfl rfl hc i [] s5 _ H5 (fun _ _ => False) I5 (stat I5 n5) st5 go
      refine thnF ti fun r s6 ⟨u, hr, h6⟩ => ?_
      subst hr
      refine thnF h6 fun _ s7 ⟨x, H7, I7, r7, y7, st7, n7⟩ => ?_
      have I7' := I7.pinned (stat I7 n7) (T.obj _ _ st7)
      refine thnF (pg.run _ s7 _ H7 x u _ I7' r7 (step x H7 y7)) fun _ s8 ⟨σ8, H8, I8, hw8, q8⟩ => ?_
      refine thnF (pt.run _ s8 σ8 H8 _ I8 q8) fun b s9 ⟨H9, I9, q9⟩ => ?_
      -- the turn's end
      have fin : ∀ {s' : Shared} {H' : Hp}, Inv (X.blk s3 H3 scope ce fp) ([] ++ pinsAt fp s7.heap) σ8 H' s' → Nx H' → ∃ m, m < n ∧ ∃ i H', Inv (X.blk s3 H3 scope ce fp) [] (wipe σ (own.map (·.2))) H' s' ∧ tn i s'.heap ∧ (∀ b ∈ fp, H' b = none) ∧ W i m H' := fun {s' H'} I' nx => by
        obtain ⟨m', hm, w'⟩ := hNx H' nx
        have pin' : ∀ b ∈ fp, ∀ o, s7.heap.get? b = some o → s'.heap.get? b = some o ∧ H' b = none := fun b hb o e =>
          let z := I'.pin (b, o) (List.mem_append_right _ (List.mem_append_right _ (mem_pinsAt hb e)))
          ⟨z.1, z.2.1⟩
        have hl : (wipe σ (own.map (·.2))).length = σ8.length := by rw [← hw8, wipe_length]
        refine ⟨m', hm, i + 1, H', (I'.unpinned (pins := [])).weak hl (fun j v e => ?_), T.keep _ _ _ st7 fun b hb o e => (pin' b hb o e).1, fun b hb => ?_, w'⟩
        · rw [← hw8] at e
          exact (wipe_some e).1
        · obtain ⟨o, e, _⟩ := T.obj _ _ st7 b hb
          exact (pin' b hb o e).2
      cases b with
      | false =>
        simp only [Bool.false_eq_true, if_false] at q9 ⊢
        exact fin I9 q9
      | true =>
        simp only [if_true] at q9 ⊢
        refine thnF (pe.run _ s9 σ8 H9 _ I9 q9) fun z s10 ⟨yv, H10, I10, r10, q10⟩ => ?_
        exact q10 (X.blk s3 H3 scope ce fp) rfl rfl rfl hu _ s10 σ8 z _ _ I10 r10 fun s11 o' nx I11 => fin I11 nx
  exact codeAny_compStart_set loop (T.self X.A 0 _ _ _ st4 loop)
theorem pe_scU {elt tg iter : Expr} {ifs : List Expr} {scope : Scope} {own : List (PySem.Str × Nat)} {pos : Pos} {wi : TI} {g : TG} {tt : TT} {te : TE} {o0 : Addr → HO} (h0 : ∀ (H : Hp) (h : Heap) (D : Addr), h.get? D = some { cls := .type "set", dict := none, data := .set #[] 0 (.fresh 0 0 (!X.w.params.followText "set-order")) } → ObjOk X.prog X.w H h D (o0 D)) (hu : X.A.units + 64 < cLine) (hc : X.calm = true) (hN : X.N.Nodup) (hi : PI X tg iter wi) (ok : BlkOk X.N X.env.scope scope own)
    (hg : ∀ (s : Shared) (H : Hp) (C : Addr) (cl : List (PySem.Str × Addr)) (fp : List Addr), PG (X.blk s H scope (compEnvC scope cl C X.env) fp) tg g) (ht : ∀ (s : Shared) (H : Hp) (C : Addr) (cl : List (PySem.Str × Addr)) (fp : List Addr), PTs (X.blk s H scope (compEnvC scope cl C X.env) fp) ifs tt)
    (he : ∀ (s : Shared) (H : Hp) (C : Addr) (cl : List (PySem.Str × Addr)) (fp : List Addr), PE (X.blk s H scope (compEnvC scope cl C X.env) fp) elt te) (hs : ∀ x, foldedSetIterable iter X.env x = pure x := by intro _; rfl) :
    PE X (.SetComp elt [⟨tg, iter, ifs, 0⟩] scope pos) (tScU X.prog X.w X.K o0 wi g tt te (own.map (·.2))) := by
  refine ⟨fun pins s σ H Q I h => ?_⟩
  rw [eval_SetComp]
  refine scU_core h0 hu hc hN I hi ok hg ht he hs h fun D C s' m H' I' q hn f => ⟨m, hn, fun h'' sb => ?_⟩
  obtain ⟨f0, f1, f2, f3, f4, f5⟩ := f
  exact ⟨.ref D, H', I'.turned (t' := s'.toks) (fun b o hb e => (sb.2 b hb).trans e) f0 f1 f3 f4 f5, rfl, q⟩
end
end PD

/-! PD25: sorted({.. for .. in ..}), by data -/
namespace PD
open PySem PySem.Spec L2 L2H
section
variable {e : Ev} {W : WX} {P : Pre} {σ τ : L2.St} {G G1 G2 : List Sl} {H H1 H2 : Hp} {Z : Zo} {X : Cx}
/-- a new object while it grows -/
def scP (P : Pre) (L : Addr) (o1 : HO) : Pre := ⟨upd P.H0 L o1, fun a => P.Z0 a ∨ a = L, P.Wr, P.pv, fun a => P.Xz a ∨ a = L⟩
theorem zn_sc {L : Addr} {o1 : HO} {a : Addr} : Zn (scP P L o1) G σ a ↔ Zn P G σ a ∨ a = L := by
  constructor
  · rintro ((z | z) | z)
    · exact .inl (.inl z)
    · exact .inr z
    · exact .inl (.inr z)
  · rintro ((z | z) | z)
    · exact .inl (.inl z)
    · exact .inr z
    · exact .inl (.inr z)
theorem Sat.scIn {L : Addr} {o1 : HO} (S : Sat e P G σ H) (hL : H L = none) : Sat e (scP P L o1) G σ (upd H L o1) := by
  have st : Step (Zn P G σ) H (Zn (scP P L o1) G σ) (upd H L o1) := step_grow (upd_keeps hL) fun a ha z => by
    rcases zn_sc.mp z with z | z
    · exact z
    · subst z; exact absurd hL ha
  have ne : ∀ {d : D} {a : Addr}, At e (Zn P G σ) H d a → a ≠ L := fun h z => by subst z; exact h.live hL
  have h0 : P.H0 L = none := by
    cases q : P.H0 L with
    | none => rfl
    | some o => exact absurd hL (S.live L (by rw [q]; simp))
  refine ⟨S.len, fun i s h => ?_, S.dist, S.par, fun a o h w => ?_, fun a h => ?_, fun a z => ?_, fun a w => .inl (S.wz a w)⟩
  · have q := S.slot i s h
    cases s with
    | no => trivial
    | imm d => obtain ⟨v, h1, h2⟩ := q; exact ⟨v, h1, Rp.step st _ _ h2⟩
    | own d => obtain ⟨a, h1, h2, h3, h4⟩ := q; exact ⟨a, h1, by rw [show (scP P L o1).H0 = upd P.H0 L o1 from rfl, upd_ne (ne h4)]; exact h2, fun z => z.elim h3 (ne h4), h4.step st (upd_ne (ne h4))⟩
    | lnd d => obtain ⟨a, h1, h2, h3, h4, h5⟩ := q; exact ⟨a, h1, h2, h3, .inl h4, h5.step st (upd_ne (ne h5))⟩
    | bor d => obtain ⟨a, h1, h2, h3, h4⟩ := q; exact ⟨a, h1, .inl h2, fun z => z.elim (fun z => h3 (.inl z)) fun z => z.elim (fun z => h3 (.inr z)) (ne h4), h4.step st (upd_ne (ne h4))⟩
    | exn c ns ds => obtain ⟨a, h1, h2⟩ := q; exact ⟨a, h1, h2.step st⟩
  · by_cases ha : a = L
    · subst ha
      rw [show (scP P a o1).H0 = upd P.H0 a o1 from rfl, upd_same] at h
      rw [upd_same]; exact h
    · rw [show (scP P L o1).H0 = upd P.H0 L o1 from rfl, upd_ne ha] at h
      rw [upd_ne ha]; exact S.keep a o h w
  · by_cases ha : a = L
    · subst ha; rw [upd_same]; simp
    · rw [show (scP P L o1).H0 = upd P.H0 L o1 from rfl, upd_ne ha] at h
      rw [upd_ne ha]; exact S.live a h
  · rcases z with z | z
    · by_cases ha : a = L
      · subst ha; rw [show (scP P a o1).H0 = upd P.H0 a o1 from rfl, upd_same]; simp
      · rw [show (scP P L o1).H0 = upd P.H0 L o1 from rfl, upd_ne ha]; exact S.z0 a z
    · subst z; rw [show (scP P a o1).H0 = upd P.H0 a o1 from rfl, upd_same]; simp
theorem scP_at {L : Addr} {o1 : HO} (S : Sat e (scP P L o1) G σ H) (hw : ¬ P.Wr L) : H L = some o1 := S.keep L _ (by rw [show (scP P L o1).H0 = upd P.H0 L o1 from rfl, upd_same]) hw
theorem Sat.scApp {L : Addr} {o1 o2 : HO} (S : Sat e (scP P L o1) G σ H) (hw : ¬ P.Wr L) : Sat e (scP P L o2) G σ (upd H L o2) ∧ Step (Zn (scP P L o1) G σ) H (Zn (scP P L o2) G σ) (upd H L o2) := by
  have hz : ∀ a, Zn (scP P L o2) G σ a ↔ Zn (scP P L o1) G σ a := fun a => zn_sc.trans zn_sc.symm
  have zL : Zn (scP P L o1) G σ L := zn_sc.mpr (.inr rfl)
  have st : Step (Zn (scP P L o1) G σ) H (Zn (scP P L o2) G σ) (upd H L o2) := ⟨fun a o h z => by
    have : a ≠ L := fun y => by subst y; exact z zL
    exact ⟨by rw [upd_ne this]; exact h, fun y => z ((hz a).mp y)⟩, fun a h => by
    by_cases ha : a = L
    · subst ha; rw [upd_same]; simp
    · rw [upd_ne ha]; exact h⟩
  have up : ∀ {a : Addr}, a ≠ L → (scP P L o2).H0 a = (scP P L o1).H0 a := fun ha => by
    rw [show (scP P L o2).H0 = upd P.H0 L o2 from rfl, show (scP P L o1).H0 = upd P.H0 L o1 from rfl, upd_ne ha, upd_ne ha]
  refine ⟨⟨S.len, fun i s h => ?_, S.dist, S.par, fun a o h w => ?_, fun a h => ?_, fun a z => ?_, fun a w => .inl ((S.wz a w).elim id fun z => by subst z; exact absurd w hw)⟩, st⟩
  · have q := S.slot i s h
    cases s with
    | no => trivial
    | imm d => obtain ⟨v, h1, h2⟩ := q; exact ⟨v, h1, Rp.step st _ _ h2⟩
    | own d =>
      obtain ⟨a, h1, h2, h3, h4⟩ := q
      have ne : a ≠ L := fun z => h3 (.inr z)
      exact ⟨a, h1, by rw [up ne]; exact h2, h3, h4.step st (upd_ne ne)⟩
    | lnd d =>
      obtain ⟨a, h1, h2, h3, h4, h5⟩ := q
      have ne : a ≠ L := fun z => by subst z; exact hw h3
      exact ⟨a, h1, h2, h3, h4, h5.step st (upd_ne ne)⟩
    | bor d =>
      obtain ⟨a, h1, h2, h3, h4⟩ := q
      have ne : a ≠ L := fun z => h3 (.inr (.inr z))
      exact ⟨a, h1, h2, h3, h4.step st (upd_ne ne)⟩
    | exn c ns ds => obtain ⟨a, h1, h2⟩ := q; exact ⟨a, h1, h2.step st⟩
  · by_cases ha : a = L
    · subst ha
      rw [show (scP P a o2).H0 = upd P.H0 a o2 from rfl, upd_same] at h
      rw [upd_same]; exact h
    · rw [up ha] at h
      rw [upd_ne ha]; exact S.keep a o h w
  · by_cases ha : a = L
    · subst ha; rw [upd_same]; simp
    · rw [up ha] at h
      rw [upd_ne ha]; exact S.live a h
  · by_cases ha : a = L
    · subst ha; rw [show (scP P a o2).H0 = upd P.H0 a o2 from rfl, upd_same]; simp
    · rw [up ha]; exact S.z0 a z
/-- the object is let go: it stays where it is -/
theorem Sat.scOut {L : Addr} {o1 : HO} (S : Sat e (scP P L o1) G σ H) (h0 : P.H0 L = none) (hz0 : ¬ P.Z0 L) (hp : ∀ (a : Addr), P.Z0 a → P.H0 a ≠ none) (hwz : ∀ a, P.Wr a → P.Z0 a) :
    Sat e P G σ H ∧ ∀ a, Zn P G σ a → Zn (scP P L o1) G σ a := by
  have up : ∀ {a : Addr}, a ≠ L → (scP P L o1).H0 a = P.H0 a := fun ha => by
    rw [show (scP P L o1).H0 = upd P.H0 L o1 from rfl, upd_ne ha]
  have zm : ∀ a, Zn P G σ a → Zn (scP P L o1) G σ a := fun a z => zn_sc.mpr (.inl z)
  refine ⟨⟨S.len, fun i s h => ?_, S.dist, S.par, fun a o h w => ?_, fun a h => ?_, hp, hwz⟩, zm⟩
  · have q := (S.slot i s h).zone zm
    cases s with
    | no => trivial
    | imm d => exact q
    | own d =>
      obtain ⟨a, h1, h2, h3, h4⟩ := q
      have ne : a ≠ L := fun z => h3 (.inr z)
      exact ⟨a, h1, by rw [← up ne]; exact h2, fun z => h3 (.inl z), h4⟩
    | lnd d =>
      obtain ⟨a, h1, h2, h3, h4, h5⟩ := q
      exact ⟨a, h1, h2, h3, hwz a h3, h5⟩
    | bor d =>
      obtain ⟨a, h1, h2, h3, h4⟩ := q
      have ne : a ≠ L := fun z => h3 (.inr (.inr z))
      exact ⟨a, h1, h2.elim id fun z => absurd z ne, fun z => z.elim (fun z => h3 (.inl z)) fun z => h3 (.inr (.inl z)), h4⟩
    | exn c ns ds => exact q
  · by_cases ha : a = L
    · subst ha; rw [h0] at h; cases h
    · exact S.keep a o (by rw [up ha]; exact h) w
  · by_cases ha : a = L
    · subst ha; exact absurd h0 h
    · exact S.live a (by rw [up ha]; exact h)
end
/-- the items, each as it is put in -/
def scGo (kd : List D → Bool) (vs : List Nat) (g : GF) (t : TF) (f : EF) : List D → List D → List Sl → R (List D)
  | [], acc, G => .ok acc G
  | d :: ds, acc, G => match g d (wipeG G vs) with
    | none => .bad
    | some G1 => (noEx (t G1)).bind fun b G2 => if b = true then (noEx (f G2)).bind fun pv G3 => (match esc pv G3 with
        | some (x, G4) => if kd (acc ++ [x]) = true then scGo kd vs g t f ds (acc ++ [x]) G4 else .bad
        | none => .bad) else scGo kd vs g t f ds acc G2
def cSU (kd : List D → Bool) (out : List D → List D) (src : F (List D)) (vs : List Nat) (g : GF) (t : TF) (f : EF) : EF := fun G => (src G).bind fun ds G1 => if okW G1 vs = true then (scGo kd vs g t f ds [] G1).bind fun xs G2 => .ok (.fr (.lst (out xs))) (resG G1 (wipeG G2 vs) vs) else .bad
/-- a kind of sets: what stands at D while xs (the values acc) were put in -/
structure SK (Pg : Program) (w : World) (e : Ev) (kd : List D → Bool) (out : List D → List D) (rS : List V → Hp → VK → Prop) where
  o0 : Addr → HO
  Ok : List D → List V → Addr → HO → Prop
  new : ∀ L, Ok [] [] L (o0 L)
  add : ∀ (Z : Zo) (H : Hp) (L : Addr) (o : HO) (xs : List D) (x : D) (acc : List V) (v : V) (Nx : Hp → Prop), kd (xs ++ [x]) = true → Ok xs acc L o → H L = some o → Rps e Z H xs acc → Rp e Z H x v → (∀ o', Ok (xs ++ [x]) (acc ++ [v]) L o' → Nx (upd H L o')) → AddR Pg w e.K L v H Nx
  fin : ∀ (Z : Zo) (H : Hp) (L : Addr) (o : HO) (xs : List D) (acc : List V) (Q : VK), kd xs = true ∨ xs = [] → Ok xs acc L o → H L = some o → Rps e Z H xs acc → (∀ p us, H p = none → Rps e Z H (out xs) us → Q (.ref p) (upd H p (.lst us))) → rS [.ref L] H Q
section
variable {e : Ev} {W : WX} {P : Pre} {σ : L2.St} {G G1 G2 : List Sl} {H H1 H2 : Hp} {Z : Zo} {X : Cx} {src : F (List D)} {vs : List Nat} {g : GF} {t : TF} {f : EF} {kd : List D → Bool} {out : List D → List D} {rS : List V → Hp → VK → Prop} {Pg : Program} {w : World}
theorem tD_su (K : SK Pg w e kd out rS) {Q : VK} (h : tD e W (cSU kd out src vs g t f) σ H Q) : tScU Pg w e.K K.o0 (tI e W src) (tGx e vs g) (tT e W0 t) (tD e W0 f) vs σ H fun x H1 => rS [x] H1 Q := by
  obtain ⟨P, G, S, h⟩ := h
  refine ⟨P, G, S, h.bind.mono (fun ds G1 q J H1 S1 st1 it L hL => ?_) fun _ _ s => s⟩
  split at q
  case isFalse => exact q.elim
  rename_i hW
  unfold okW at hW
  simp only [Bool.and_eq_true, decide_eq_true_eq, List.all_eq_true] at hW
  obtain ⟨nd, hall⟩ := hW
  have hlt : ∀ v ∈ vs, v < σ.length := fun v hv => by
    have := hall v hv
    split at this
    · rename_i s q1
      rw [← S1.len]; exact (List.getElem?_eq_some_iff.mp q1).1
    · cases this
  have held : ∀ v ∈ vs, Held e (Zn P G1 σ) H1 σ v ((G1[v]?).getD .no) := fun v hv => by
    have := hall v hv
    split at this
    · rename_i s q1
      rw [q1]
      have k := S1.slot _ _ q1
      cases s with
      | no => exact .inl rfl
      | imm d => obtain ⟨x, k1, k2⟩ := k; exact .inr ⟨d, x, rfl, k1, k2⟩
      | _ => cases this
    · cases this
  have h0 : P.H0 L = none := by
    cases q : P.H0 L with
    | none => rfl
    | some o => exact absurd hL (S1.live L (by rw [q]; simp))
  have hz0 : ¬ P.Z0 L := fun z => S1.z0 L z h0
  have hw : ¬ P.Wr L := fun z => hz0 (S1.wz L z)
  have SL := S1.scIn (o1 := K.o0 L) hL
  have stL : Step (Zn P G1 σ) H1 (Zn (scP P L (K.o0 L)) G1 σ) (upd H1 L (K.o0 L)) := step_grow (upd_keeps hL) fun a ha z => by
    rcases zn_sc.mp z with z | z
    · exact z
    · subst z; exact absurd hL ha
  obtain ⟨SW, zW⟩ := SL.wiped vs
  have kp : ∀ {o1 : HO} {Gi : List Sl} {τ : L2.St} {Hi : Hp}, Sat e (scP P L o1) Gi τ Hi → Kp P Hi := fun {o1 Gi τ Hi} Si a o ha w _ => by
    have ne : a ≠ L := fun z => by subst z; rw [h0] at ha; cases ha
    exact Si.keep a o (by rw [show (scP P L o1).H0 = upd P.H0 L o1 from rfl, upd_ne ne]; exact ha) w
  refine ⟨fun i m Hi => m = ds.length - i ∧ i ≤ ds.length ∧ ∃ Gi o1 acc xs, Sat e (scP P L o1) (wipeG Gi vs) (wipe σ vs) Hi ∧ Step (Zn P G1 σ) H1 (Zn (scP P L o1) (wipeG Gi vs) (wipe σ vs)) Hi ∧ Rps e (Zn (scP P L o1) (wipeG Gi vs) (wipe σ vs)) Hi xs acc ∧ K.Ok xs acc L o1 ∧ (kd xs = true ∨ xs = []) ∧
    PostR e W P σ (Zn P G σ) H (fun pv G2 => ∀ v H2, Res e P σ (Zn P G σ) H pv G2 v H2 → Q v H2) ((scGo kd vs g t f (ds.drop i) xs Gi).bind fun xs G2 => .ok (.fr (.lst (out xs))) (resG G1 (wipeG G2 vs) vs)), ⟨ds.length, by simp, Nat.zero_le _, G1, K.o0 L, [], [], SW, (stL.zone zW), rfl, K.new L, .inr rfl, by simpa using q⟩, ?_⟩
  rintro i m Hi ⟨rfl, hi, Gi, o1, acc, xs, Si, sti, ri, ok, hkd, post⟩
  by_cases hlt' : i < ds.length
  · refine .inr ⟨it.go _ _ i sti (kp Si) hlt', ?_⟩
    rw [List.drop_eq_getElem_cons hlt'] at post
    simp only [scGo] at post
    refine ⟨fun H' => ∃ Gj o2 acc' xs', Sat e (scP P L o2) (wipeG Gj vs) (wipe σ vs) H' ∧ Step (Zn P G1 σ) H1 (Zn (scP P L o2) (wipeG Gj vs) (wipe σ vs)) H' ∧ Rps e (Zn (scP P L o2) (wipeG Gj vs) (wipe σ vs)) H' xs' acc' ∧ K.Ok xs' acc' L o2 ∧ (kd xs' = true ∨ xs' = []) ∧
      PostR e W P σ (Zn P G σ) H (fun pv G2 => ∀ v H2, Res e P σ (Zn P G σ) H pv G2 v H2 → Q v H2) ((scGo kd vs g t f (ds.drop (i + 1)) xs' Gj).bind fun xs G2 => .ok (.fr (.lst (out xs))) (resG G1 (wipeG G2 vs) vs)), fun H' ⟨Gj, o2, acc', xs', a1, a2, a3, a4, a5, a6⟩ => ⟨ds.length - (i + 1), by omega, rfl, hlt', Gj, o2, acc', xs', a1, a2, a3, a4, a5, a6⟩, fun x H'' y => ?_⟩
    obtain ⟨gr, rp⟩ := it.yl _ _ i ds[i] x H'' sti (kp Si) (fun a z => Si.zlive z) (List.getElem?_eq_getElem hlt') y
    have S2 := Si.grow gr
    have sg := step_of_grow Si gr
    have st2 := sti.trans sg
    refine ⟨scP P L o1, wipeG Gi vs, ds[i], S2, rp, ?_⟩
    split at post
    · exact post.elim
    · rename_i G3 q3
      rw [q3]
      intro σ3 S3 st3 sm3
      have st3' := st2.trans st3
      have w3 : wipe σ3 vs = wipe σ vs := (same_wipe.trans sm3).wipe_eq.symm
      have r3 := Rps.step (sg.trans st3) _ _ ri
      obtain ⟨b, G4, qt, post⟩ : ∃ b G4, t G3 = .ok b G4 ∧ PostR e W P σ (Zn P G σ) H (fun pv G2 => ∀ v H2, Res e P σ (Zn P G σ) H pv G2 v H2 → Q v H2) ((if b = true then (PD.noEx (f G4)).bind fun pv G3 => (match esc pv G3 with
        | some (x, G4) => if kd (xs ++ [x]) = true then scGo kd vs g t f (ds.drop (i + 1)) (xs ++ [x]) G4 else .bad
        | none => .bad) else scGo kd vs g t f (ds.drop (i + 1)) xs G4).bind fun xs G2 => .ok (.fr (.lst (out xs))) (resG G1 (wipeG G2 vs) vs)) := by
        cases q5 : t G3 with
        | ok b G4 => rw [q5] at post; exact ⟨b, G4, rfl, post⟩
        | ex c ns es G4 => rw [q5] at post; exact post.elim
        | bad => rw [q5] at post; exact post.elim
      refine ⟨w3, scP P L o1, G3, S3, ?_⟩
      rw [qt]
      intro H4 S4 st4
      have r4 := Rps.step st4 _ _ r3
      have st4' := st3'.trans st4
      cases b with
      | false =>
        rw [if_neg (by decide)] at post
        refine iteF ⟨G4, o1, acc, xs, ?_⟩
        obtain ⟨S5, z5⟩ := S4.wiped vs
        rw [w3] at S5 z5
        exact ⟨S5, st4'.zone z5, Rps.zone r4 z5, ok, hkd, post⟩
      | true =>
        rw [if_pos rfl] at post
        obtain ⟨pv, G5, qf, post⟩ : ∃ pv G5, f G4 = .ok pv G5 ∧ PostR e W P σ (Zn P G σ) H (fun pv G2 => ∀ v H2, Res e P σ (Zn P G σ) H pv G2 v H2 → Q v H2) ((match esc pv G5 with
          | some (x, G4) => if kd (xs ++ [x]) = true then scGo kd vs g t f (ds.drop (i + 1)) (xs ++ [x]) G4 else .bad
          | none => .bad).bind fun xs G2 => .ok (.fr (.lst (out xs))) (resG G1 (wipeG G2 vs) vs)) := by
          cases q5 : f G4 with
          | ok pv G5 => rw [q5] at post; exact ⟨pv, G5, rfl, post⟩
          | ex c ns es G4 => rw [q5] at post; exact post.elim
          | bad => rw [q5] at post; exact post.elim
        refine iteT ⟨scP P L o1, G4, S4, ?_⟩
        rw [qf]
        intro v H5 r5
        obtain ⟨S5, st5, t5⟩ := r5.tmp
        split at post
        · rename_i d' G6 q6
          obtain ⟨S6, st6, r6⟩ := esc_ok S5 t5 q6
          split at post
          · rename_i hk2
            have rr := Rps.step (st5.trans st6) _ _ r4
            refine K.add _ H5 L o1 xs d' acc v _ hk2 ok (scP_at S6 hw) rr r6 fun o2 ok2 => ?_
            obtain ⟨S7, st7⟩ := S6.scApp (o2 := o2) hw
            obtain ⟨S8, z8⟩ := S7.wiped vs
            rw [w3] at S8 z8
            exact ⟨G6, o2, acc ++ [v], xs ++ [d'], S8, (((st4'.trans st5).trans st6).trans st7).zone z8, Rps.zone (Rps.step st7 _ _ (rps_snoc rr r6)) z8, ok2, .inl hk2, post⟩
          · exact post.elim
        · exact post.elim
  · have e1 : i = ds.length := by omega
    subst e1
    refine .inl ⟨it.st _ _ sti (kp Si), ?_⟩
    rw [List.drop_length] at post
    obtain ⟨S3, z3⟩ := Sat.back (G0 := G1) nd hlt Si fun v hv => by
      rcases held v hv with h | ⟨d, x, h1, h2, h3⟩
      · exact .inl h
      · exact .inr ⟨d, x, h1, h2, Rp.step sti _ _ h3⟩
    have ri3 := Rps.zone ri fun a z => (z3 a).mp z
    obtain ⟨S4, z4⟩ := S3.scOut h0 hz0 S1.z0 S1.wz
    have ri4 := Rps.zone ri3 z4
    have st4 : Step (Zn P G1 σ) H1 (Zn P (resG G1 (wipeG Gi vs) vs) σ) Hi := sti.zone fun a z => (z3 a).mp (z4 a z)
    refine K.fin _ Hi L o1 xs acc Q hkd ok (scP_at S3 hw) ri4 fun p us hp ru => ?_
    exact post _ _ (((Out.newL hp ru).res S4).from_ (st1.trans st4))
end
end PD

/-! PD26: the two kinds: ints, pairs of ints -/
namespace PD
open PySem PySem.Spec L2 L2H
/-! ### sorted lists without repeats -/
section
variable {α : Type} {lt : α → α → Bool}
def insU (lt : α → α → Bool) (x : α) : List α → List α
  | [] => [x]
  | y :: ys => if lt x y = true then x :: y :: ys else if lt y x = true then y :: insU lt x ys else y :: ys
def srtU (lt : α → α → Bool) : List α → List α
  | [] => []
  | x :: xs => insU lt x (srtU lt xs)
structure StO (lt : α → α → Bool) : Prop where
  irr : ∀ x, lt x x = false
  tr : ∀ x y z, lt x y = true → lt y z = true → lt x z = true
  tri : ∀ x y, lt x y = false → lt y x = false → x = y
theorem mem_insU (h : StO lt) {x z : α} : ∀ {l : List α}, z ∈ insU lt x l ↔ z = x ∨ z ∈ l
  | [] => by simp [insU]
  | y :: ys => by
    unfold insU
    split
    · simp
    · split
      · rw [List.mem_cons, mem_insU h, List.mem_cons]
        constructor
        · rintro (h | h | h)
          · exact .inr (.inl h)
          · exact .inl h
          · exact .inr (.inr h)
        · rintro (h | h | h)
          · exact .inr (.inl h)
          · exact .inl h
          · exact .inr (.inr h)
      · rename_i h1 h2
        have := h.tri x y (by simpa using h1) (by simpa using h2)
        subst this
        simp
theorem srt_insU (h : StO lt) {x : α} : ∀ {l : List α}, l.Pairwise (fun a b => lt a b = true) → (insU lt x l).Pairwise (fun a b => lt a b = true)
  | [], _ => by simp [insU]
  | y :: ys, p => by
    have p' := List.pairwise_cons.mp p
    unfold insU
    split
    · rename_i h1
      refine List.pairwise_cons.mpr ⟨fun a ha => ?_, p⟩
      rcases List.mem_cons.mp ha with rfl | ha
      · exact h1
      · exact h.tr _ _ _ h1 (p'.1 a ha)
    · split
      · rename_i h2
        refine List.pairwise_cons.mpr ⟨fun a ha => ?_, srt_insU h p'.2⟩
        rcases (mem_insU h).mp ha with rfl | ha
        · exact h2
        · exact p'.1 a ha
      · exact p
theorem mem_srtU (h : StO lt) {z : α} : ∀ {l : List α}, z ∈ srtU lt l ↔ z ∈ l
  | [] => Iff.rfl
  | x :: l => by
    unfold srtU
    rw [mem_insU h, mem_srtU h, List.mem_cons]
theorem srt_srtU (h : StO lt) : ∀ (l : List α), (srtU lt l).Pairwise (fun a b => lt a b = true)
  | [] => .nil
  | x :: l => srt_insU h (srt_srtU h l)
theorem uniq_srt (h : StO lt) : ∀ {l m : List α}, l.Pairwise (fun a b => lt a b = true) → m.Pairwise (fun a b => lt a b = true) → (∀ z, z ∈ l ↔ z ∈ m) → l = m
  | [], [], _, _, _ => rfl
  | [], y :: m, _, _, e => by have := (e y).mpr List.mem_cons_self; cases this
  | x :: l, [], _, _, e => by have := (e x).mp List.mem_cons_self; cases this
  | x :: l, y :: m, p, q, e => by
    have p' := List.pairwise_cons.mp p
    have q' := List.pairwise_cons.mp q
    have exy : x = y := by
      rcases List.mem_cons.mp ((e x).mp List.mem_cons_self) with r | r
      · exact r
      · rcases List.mem_cons.mp ((e y).mpr List.mem_cons_self) with s | s
        · exact s.symm
        · have a := q'.1 x r
          have b := p'.1 y s
          have := h.tr _ _ _ a b
          rw [h.irr] at this
          cases this
    subst exy
    congr 1
    refine uniq_srt h p'.2 q'.2 fun z => ⟨fun hz => ?_, fun hz => ?_⟩
    · rcases List.mem_cons.mp ((e z).mp (List.mem_cons_of_mem _ hz)) with r | r
      · subst r
        have := p'.1 z hz
        rw [h.irr] at this
        cases this
      · exact r
    · rcases List.mem_cons.mp ((e z).mpr (List.mem_cons_of_mem _ hz)) with r | r
      · subst r
        have := q'.1 z hz
        rw [h.irr] at this
        cases this
      · exact r
theorem nodup_srt (h : StO lt) {l : List α} (p : l.Pairwise (fun a b => lt a b = true)) : l.Nodup := p.imp fun {a b} hab e => by
  subst e
  rw [h.irr] at hab
  cases hab
end
theorem len_sub {α : Type} [DecidableEq α] : ∀ {l m : List α}, l.Nodup → (∀ z ∈ l, z ∈ m) → l.length ≤ m.length
  | [], _, _, _ => Nat.zero_le _
  | x :: l, m, nd, hs => by
    obtain ⟨n1, n2⟩ := List.nodup_cons.mp nd
    have hx := hs x List.mem_cons_self
    have := len_sub (m := m.erase x) n2 fun z hz => (List.mem_erase_of_ne (by rintro rfl; exact n1 hz)).mpr (hs z (List.mem_cons_of_mem _ hz))
    rw [List.length_erase_of_mem hx] at this
    have : 0 < m.length := List.length_pos_of_mem hx
    simp only [List.length_cons]
    omega
/-! ### pairs -/
def ltP (p q : Int × Int) : Bool := decide (p.1 < q.1 ∨ (p.1 = q.1 ∧ p.2 < q.2))
theorem ltP_o : StO ltP where
  irr := fun x => by simp [ltP]
  tr := fun x y z h1 h2 => by
    simp only [ltP, decide_eq_true_eq] at *
    omega
  tri := fun x y h1 h2 => by
    simp only [ltP, decide_eq_false_iff_not] at *
    obtain ⟨a, b⟩ := x
    obtain ⟨c, d⟩ := y
    simp only at h1 h2
    have h3 : a = c := by omega
    have h4 : b = d := by omega
    rw [h3, h4]
def pr2 : D → Option (Int × Int)
  | .tup [.int x, .int y] => some (x, y)
  | _ => none
def prs (xs : List D) : List (Int × Int) := xs.filterMap pr2
def okP : D → Bool
  | .tup [.int x, .int y] => decide (0 ≤ x ∧ x < 64) && decide (0 ≤ y ∧ y < 64)
  | _ => false
theorem okP_some {x : D} (h : okP x = true) : ∃ i j : Int, x = .tup [.int i, .int j] ∧ (0 ≤ i ∧ i < 64) ∧ (0 ≤ j ∧ j < 64) := by
  unfold okP at h
  split at h
  · simp only [Bool.and_eq_true, decide_eq_true_eq] at h
    exact ⟨_, _, rfl, h.1, h.2⟩
  · cases h
def srtP (ps : List (Int × Int)) : List (Int × Int) := srtU ltP ps
def kdP (xs : List D) : Bool := xs.all okP && decide ((srtP (prs xs)).length ≤ 62)
def dP (p : Int × Int) : D := .tup [.int p.1, .int p.2]
def outP (xs : List D) : List D := (srtP (prs xs)).map dP
theorem mem_prs {xs : List D} {i j : Int} : (i, j) ∈ prs xs ↔ D.tup [.int i, .int j] ∈ xs := by
  unfold prs
  rw [List.mem_filterMap]
  constructor
  · rintro ⟨x, hx, h⟩
    unfold pr2 at h
    split at h
    · cases h; exact hx
    · cases h
  · intro h
    exact ⟨_, h, rfl⟩
def toL (p : Int × Int) : List Int := [p.1, p.2]
theorem toL_inj {p q : Int × Int} (h : toL p = toL q) : p = q := by
  obtain ⟨a, b⟩ := p
  obtain ⟨c, d⟩ := q
  simp [toL] at h
  rw [h.1, h.2]
theorem len_le_srt {xs : List D} {M : List (List Int)} (nd : M.Nodup) (h : ∀ k ∈ M, ∃ i j, (i, j) ∈ prs xs ∧ k = [i, j]) : M.length ≤ (srtP (prs xs)).length := by
  have := len_sub (m := (srtP (prs xs)).map toL) nd fun k hk => by
    obtain ⟨i, j, h1, rfl⟩ := h k hk
    exact List.mem_map.mpr ⟨(i, j), (mem_srtU ltP_o).mpr h1, rfl⟩
  simpa using this
theorem srt_le {xs : List D} {x : D} : (srtP (prs xs)).length ≤ (srtP (prs (xs ++ [x]))).length :=
  len_sub (nodup_srt ltP_o (srt_srtU ltP_o _)) fun z hz => (mem_srtU ltP_o).mpr (by
    have := (mem_srtU ltP_o).mp hz
    unfold prs at this ⊢
    rw [List.filterMap_append]
    exact List.mem_append_left _ this)
section
variable {e : Ev} {Z : Zo} {H : Hp}
theorem Rp.pair {i j : Int} {v : V} (h : Rp e Z H (.tup [.int i, .int j]) v) : ∃ b, v = .ref b ∧ SqT e.K H b ([i, j].map V.int) := by
  obtain ⟨a, vs, rfl, h1, h2⟩ := h
  obtain ⟨v1, r1, rfl, e1, h3⟩ := h2
  obtain ⟨v2, r2, rfl, e2, h4⟩ := h3
  cases e1; cases e2; cases h4
  exact ⟨a, rfl, h1.sq⟩
end
end PD

/-! PD27: the rule for sorted({.. for .. in ..}) -/
namespace PD
open PySem PySem.Spec L2 L2H PyProof.Rows
section
variable {e : Ev} {Pg : Program} {w : World} {Z : Zo} {H : Hp}
/-- the set of pairs -/
def OkT (Pg : Program) (w : World) (xs : List D) (acc : List V) (L : Addr) (o : HO) : Prop := ∃ M : List (Addr × List Int), o = SetTO Pg w L M ∧ (M.map (·.2)).Nodup ∧
  (∀ p ∈ M, ∃ (n : Nat) (i j : Int), acc[n]? = some (.ref p.1) ∧ xs[n]? = some (.tup [.int i, .int j]) ∧ p.2 = [i, j]) ∧ ∀ i j, (i, j) ∈ prs xs → [i, j] ∈ M.map (·.2)
theorem okT_sq {xs : List D} {acc : List V} {M : List (Addr × List Int)} (r : Rps e Z H xs acc) (h : ∀ p ∈ M, ∃ (n : Nat) (i j : Int), acc[n]? = some (.ref p.1) ∧ xs[n]? = some (.tup [.int i, .int j]) ∧ p.2 = [i, j]) : ∀ p ∈ M, SqT e.K H p.1 (p.2.map V.int) := fun p hp => by
  obtain ⟨n, i, j, h1, h2, h3⟩ := h p hp
  obtain ⟨v, h4, h5⟩ := r.get h2
  rw [h1] at h4
  cases h4
  obtain ⟨b, e1, h6⟩ := h5.pair
  cases e1
  rw [h3]
  exact h6
theorem okT_len {xs : List D} {acc : List V} {M : List (Addr × List Int)} (nd : (M.map (·.2)).Nodup) (h : ∀ p ∈ M, ∃ (n : Nat) (i j : Int), acc[n]? = some (.ref p.1) ∧ xs[n]? = some (.tup [.int i, .int j]) ∧ p.2 = [i, j]) : M.length ≤ (srtP (prs xs)).length := by
  have := len_le_srt (xs := xs) nd fun k hk => by
    obtain ⟨p, hp, rfl⟩ := List.mem_map.mp hk
    obtain ⟨n, i, j, _, h2, h3⟩ := h p hp
    exact ⟨i, j, mem_prs.mpr (List.mem_of_getElem? h2), h3⟩
  simpa using this
theorem seq_code {i j i' j' : Int} (b1 : 0 ≤ i ∧ i < 64) (b2 : 0 ≤ j ∧ j < 64) (b3 : 0 ≤ i' ∧ i' < 64) (b4 : 0 ≤ j' ∧ j' < 64) (h : TS.code 64 [i, j] ≤ TS.code 64 [i', j']) (ne : [i, j] ≠ [i', j']) : ltP (i, j) (i', j') = true := by
  have := pair_lt h ne b1 b2 b3 b4
  simp only [ltP, decide_eq_true_eq]
  exact this
theorem kd_mem {xs : List D} (h : kdP xs = true ∨ xs = []) {i j : Int} (hm : D.tup [.int i, .int j] ∈ xs) : (0 ≤ i ∧ i < 64) ∧ (0 ≤ j ∧ j < 64) := by
  rcases h with h | rfl
  · unfold kdP at h
    simp only [Bool.and_eq_true, List.all_eq_true] at h
    obtain ⟨a, b, e, h1, h2⟩ := okP_some (h.1 _ hm)
    cases e
    exact ⟨h1, h2⟩
  · cases hm
theorem rps_map {α : Type} {f : α → D} {g : α → V} : ∀ {l : List α}, (∀ a ∈ l, Rp e Z H (f a) (g a)) → Rps e Z H (l.map f) (l.map g)
  | [], _ => rfl
  | a :: l, h => ⟨_, _, rfl, h a List.mem_cons_self, rps_map fun b hb => h b (List.mem_cons_of_mem _ hb)⟩
def skP (Pg : Program) (w : World) (e : Ev) : SK Pg w e kdP outP (rSortedT e.K Pg w) where
  o0 := fun L => SetTO Pg w L []
  Ok := OkT Pg w
  new := fun L => ⟨[], rfl, by simp, by simp, by simp [prs]⟩
  add := by
    intro Z H L o xs x acc v Nx hk ⟨M, eo, nd, h1, h2⟩ hL rs rx hn
    subst eo
    unfold kdP at hk
    simp only [Bool.and_eq_true, List.all_eq_true, decide_eq_true_eq] at hk
    obtain ⟨i, j, rfl, b1, b2⟩ := okP_some (hk.1 x (by simp))
    obtain ⟨b, rfl, hsq⟩ := rx.pair
    have hl := okT_len nd h1
    have hl2 := srt_le (xs := xs) (x := .tup [.int i, .int j])
    have hlen := rs.length
    refine addT (k := [i, j]) hL (okT_sq rs h1) hsq (by have := hk.2; omega) fun M' c1 c2 => hn _ ⟨M', rfl, ?_⟩
    have old : ∀ p ∈ M, ∃ (n : Nat) (i' j' : Int), (acc ++ [V.ref b])[n]? = some (.ref p.1) ∧ (xs ++ [D.tup [.int i, .int j]])[n]? = some (.tup [.int i', .int j']) ∧ p.2 = [i', j'] := fun p hp => by
      obtain ⟨n, i', j', k1, k2, k3⟩ := h1 p hp
      exact ⟨n, i', j', by rw [List.getElem?_append_left (List.getElem?_eq_some_iff.mp k1).1]; exact k1, by rw [List.getElem?_append_left (List.getElem?_eq_some_iff.mp k2).1]; exact k2, k3⟩
    have inn : ∀ i' j', (i', j') ∈ prs (xs ++ [D.tup [.int i, .int j]]) → (i', j') ∈ prs xs ∨ (i' = i ∧ j' = j) := fun i' j' h => by
      rcases List.mem_append.mp (mem_prs.mp h) with h | h
      · exact .inl (mem_prs.mpr h)
      · simp at h
        exact .inr h
    by_cases hm : [i, j] ∈ M.map (·.2)
    · rw [c1 hm]
      refine ⟨nd, old, fun i' j' h => ?_⟩
      rcases inn i' j' h with h | ⟨rfl, rfl⟩
      · exact h2 i' j' h
      · exact hm
    · have pm := c2 hm
      refine ⟨?_, fun p hp => ?_, fun i' j' h => ?_⟩
      · rw [(pm.map (·.2)).nodup_iff]
        exact List.nodup_cons.mpr ⟨hm, nd⟩
      · rcases List.mem_cons.mp (pm.mem_iff.mp hp) with rfl | hp
        · exact ⟨acc.length, i, j, by simp, by rw [hlen]; simp, rfl⟩
        · exact old p hp
      · rw [(pm.map (·.2)).mem_iff]
        rcases inn i' j' h with h | ⟨rfl, rfl⟩
        · exact List.mem_cons_of_mem _ (h2 i' j' h)
        · exact List.mem_cons_self
  fin := by
    intro Z H L o xs acc Q hk ⟨M, eo, nd, h1, h2⟩ hL rs q
    subst eo
    have inx : ∀ p ∈ M, ∃ i j : Int, p.2 = [i, j] ∧ D.tup [.int i, .int j] ∈ xs ∧ Rp e Z H (.tup [.int i, .int j]) (.ref p.1) := fun p hp => by
      obtain ⟨n, i, j, k1, k2, k3⟩ := h1 p hp
      obtain ⟨v, h4, h5⟩ := rs.get k2
      rw [k1] at h4
      cases h4
      exact ⟨i, j, k3, List.mem_of_getElem? k2, h5⟩
    refine ⟨L, M, 2, 64, rfl, hL, okT_sq rs h1, by decide, fun p hp => ?_, fun M' p pm nd' hlen pw hp => ?_⟩
    · obtain ⟨i, j, e1, e2, _⟩ := inx p hp
      obtain ⟨b1, b2⟩ := kd_mem hk e2
      rw [e1]
      refine ⟨rfl, fun m hm => ?_⟩
      simp at hm
      rcases hm with rfl | rfl
      · exact b1
      · exact b2
    · let f : Addr × List Int → Int × Int := fun p => match p.2 with
        | [i, j] => (i, j)
        | _ => (0, 0)
      have ff : ∀ p ∈ M', ∃ i j : Int, p.2 = [i, j] ∧ f p = (i, j) ∧ D.tup [.int i, .int j] ∈ xs ∧ Rp e Z H (.tup [.int i, .int j]) (.ref p.1) := fun p hp => by
        obtain ⟨i, j, e1, e2, e3⟩ := inx p (pm.mem_iff.mp hp)
        exact ⟨i, j, e1, by simp only [f, e1], e2, e3⟩
      have key : M'.map f = srtP (prs xs) := by
        refine uniq_srt ltP_o ?_ (srt_srtU ltP_o _) fun z => ?_
        · rw [List.pairwise_map]
          have pn : M'.Pairwise fun p q => p.2 ≠ q.2 := by
            have := nd'
            unfold List.Nodup at this
            rw [List.pairwise_map] at this
            exact this
          have := (pw.and pn)
          refine List.Pairwise.imp_of_mem ?_ this
          intro p q hp hq ⟨c, ne⟩
          obtain ⟨i, j, e1, e2, e3, _⟩ := ff p hp
          obtain ⟨i', j', e1', e2', e3', _⟩ := ff q hq
          rw [e2, e2']
          rw [e1, e1'] at c ne
          obtain ⟨b1, b2⟩ := kd_mem hk e3
          obtain ⟨b3, b4⟩ := kd_mem hk e3'
          exact seq_code b1 b2 b3 b4 c ne
        · rw [show z ∈ srtP (prs xs) ↔ z ∈ prs xs from mem_srtU ltP_o, List.mem_map]
          constructor
          · rintro ⟨p, hp, rfl⟩
            obtain ⟨i, j, _, e2, e3, _⟩ := ff p hp
            rw [e2]
            exact mem_prs.mpr e3
          · intro hz
            obtain ⟨i, j⟩ := z
            have := (pm.map (·.2)).mem_iff.mpr (h2 i j hz)
            obtain ⟨p, hp, e1⟩ := List.mem_map.mp this
            refine ⟨p, hp, ?_⟩
            simp only [f, e1]
      refine q p _ hp ?_
      have : outP xs = M'.map fun p => dP (f p) := by
        unfold outP
        rw [← key, List.map_map] <;> rfl
      rw [this]
      exact rps_map fun p hp => by
        obtain ⟨i, j, _, e2, _, e4⟩ := ff p hp
        rw [e2]
        exact e4
end
end PD

/-! PD28: the kind of ints; the rules -/
namespace PD
open PySem PySem.Spec L2 L2H PyProof.Rows PpSet
def ltI (a b : Int) : Bool := decide (a < b)
theorem ltI_o : StO ltI where
  irr := fun x => by simp [ltI]
  tr := fun x y z h1 h2 => by simp only [ltI, decide_eq_true_eq] at *; omega
  tri := fun x y h1 h2 => by simp only [ltI, decide_eq_false_iff_not] at *; omega
def in1 : D → Option Int
  | .int i => some i
  | _ => none
def intsD (xs : List D) : List Int := xs.filterMap in1
def okI : D → Bool
  | .int _ => true
  | _ => false
def srtI (ns : List Int) : List Int := srtU ltI ns
def kdI (xs : List D) : Bool := xs.all okI && decide ((srtI (intsD xs)).length ≤ 62)
def outI (xs : List D) : List D := (srtI (intsD xs)).map D.int
theorem srt_snoc {l : List Int} {k : Int} : (srtI (l ++ [k])).length = if k ∈ l then (srtI l).length else (srtI l).length + 1 := by
  have n1 := nodup_srt ltI_o (srt_srtU ltI_o (l ++ [k]))
  have n2 := nodup_srt ltI_o (srt_srtU ltI_o l)
  have m1 : ∀ z, z ∈ srtI (l ++ [k]) ↔ z ∈ l ∨ z = k := fun z => by
    rw [show z ∈ srtI (l ++ [k]) ↔ z ∈ l ++ [k] from mem_srtU ltI_o]
    simp
  have m2 : ∀ z, z ∈ srtI l ↔ z ∈ l := fun z => mem_srtU ltI_o
  by_cases h : k ∈ l
  · rw [if_pos h]
    refine Nat.le_antisymm (len_sub n1 fun z hz => (m2 z).mpr ?_) (len_sub n2 fun z hz => (m1 z).mpr (.inl ((m2 z).mp hz)))
    rcases (m1 z).mp hz with r | rfl
    · exact r
    · exact h
  · rw [if_neg h]
    have a : (srtI (l ++ [k])).length ≤ (k :: srtI l).length := len_sub (m := k :: srtI l) n1 fun z hz => by
      rcases (m1 z).mp hz with r | rfl
      · exact List.mem_cons_of_mem _ ((m2 z).mpr r)
      · exact List.mem_cons_self
    have b : (k :: srtI l).length ≤ (srtI (l ++ [k])).length := len_sub (l := k :: srtI l) (m := srtI (l ++ [k])) (List.nodup_cons.mpr ⟨fun z => h ((m2 k).mp z), n2⟩) fun z hz => by
      rcases List.mem_cons.mp hz with rfl | hz
      · exact (m1 _).mpr (.inr rfl)
      · exact (m1 z).mpr (.inl ((m2 z).mp hz))
    simp only [List.length_cons] at a b
    omega
section
variable {e : Ev} {Pg : Program} {w : World} {Z : Zo} {H : Hp}
theorem setR_new0 {h : Heap} {a : Addr} (ho : h.get? a = some { cls := .type "set", dict := none, data := .set #[] 0 (.fresh 0 0 (!w.params.followText "set-order")) }) : SetR w h a (fun _ => false) 0 :=
  ⟨_, #[], 0, _, ho, ⟨rfl, rfl, rfl⟩, rfl, (fun e he => by simp at he), (by simp), (fun k => by simp), (by decide), (by rfl), rfl, List.Pairwise.nil, by
    show _ ∨ (!w.params.followText "set-order") = true
    cases w.params.followText "set-order"
    · exact .inr rfl
    · exact .inl rfl⟩
def skI (Pg : Program) (w : World) (e : Ev) : SK Pg w e kdI outI (rSortedSet w) where
  o0 := fun L => SetO w L (fun _ => false) 0
  Ok := fun xs _ L o => o = SetO w L (fun k => decide (k ∈ intsD xs)) (srtI (intsD xs)).length
  new := fun L => by
    have : (fun k : Int => decide (k ∈ intsD [])) = fun _ => false := by funext k; simp [intsD]
    rw [this] <;> rfl
  add := by
    intro Z H L o xs x acc v Nx hk eo hL rs rx hn
    subst eo
    unfold kdI at hk
    simp only [Bool.and_eq_true, List.all_eq_true, decide_eq_true_eq] at hk
    have hx := hk.1 x (by simp)
    cases x with
    | int k =>
      cases rx
      have e1 : intsD (xs ++ [D.int k]) = intsD xs ++ [k] := by unfold intsD; rw [List.filterMap_append] <;> rfl
      rw [e1, srt_snoc] at hk
      have hs : (srtI (intsD xs)).length + 1 < scanBound := by
        have : (63 : Nat) < scanBound := by decide
        have := hk.2
        split at this <;> omega
      refine addI hL hs (hn _ ?_)
      rw [e1, srt_snoc]
      have f1 : (fun j => decide (j ∈ intsD xs) || decide (j = k)) = fun j => decide (j ∈ intsD xs ++ [k]) := by
        funext j
        simp
      rw [f1]
      by_cases hm : k ∈ intsD xs
      · rw [if_pos hm, if_pos (by simpa using hm)]
      · rw [if_neg hm, if_neg (by simpa using hm)]
    | _ => cases hx
  fin := by
    intro Z H L o xs acc Q hk eo hL rs q
    subst eo
    refine ⟨L, _, _, rfl, hL, ?_, fun ns p pw hm hl hp => ?_⟩
    · rcases hk with h | rfl
      · unfold kdI at h
        simp only [Bool.and_eq_true, decide_eq_true_eq] at h
        omega
      · show (srtI []).length < 64
        decide
    · have : ns = srtI (intsD xs) := by
        refine uniq_srt ltI_o (pw.imp fun h => by simpa [ltI] using h) (srt_srtU ltI_o _) fun z => ?_
        rw [show z ∈ srtI (intsD xs) ↔ z ∈ intsD xs from mem_srtU ltI_o, hm z]
        simp
      subst this
      refine q p _ hp ?_
      exact rps_map fun i _ => rfl
end
section
variable {e : Ev} {W : WX} {X : Cx} {src : F (List D)} {g : GF} {t : TF} {f : EF} {elt tg iter : Expr} {ifs : List Expr} {scope : Scope} {own : List (Str × Nat)} {p pos pos1 : Pos}
theorem de_sortP (B : Bd e X W) (hc : X.calm = true) (hN : X.N.Nodup) (hg1 : Gl X "sorted") (hm1 : X.mg "sorted" = none) (hi : PI X tg iter (tI e W src)) (ok : blkC X.N X.env.scope scope own = true)
    (hg : ∀ (s : Shared) (H : Hp) (C : Addr) (cl : List (Str × Addr)) (fp : List Addr), Bd e (X.blk s H scope (compEnvC scope cl C X.env) fp) W0 → PG (X.blk s H scope (compEnvC scope cl C X.env) fp) tg (tGx e (own.map (·.2)) g)) (ht : ∀ (s : Shared) (H : Hp) (C : Addr) (cl : List (Str × Addr)) (fp : List Addr), Bd e (X.blk s H scope (compEnvC scope cl C X.env) fp) W0 → PTs (X.blk s H scope (compEnvC scope cl C X.env) fp) ifs (tT e W0 t))
    (he : ∀ (s : Shared) (H : Hp) (C : Addr) (cl : List (Str × Addr)) (fp : List Addr), Bd e (X.blk s H scope (compEnvC scope cl C X.env) fp) W0 → PE (X.blk s H scope (compEnvC scope cl C X.env) fp) elt (tD e W0 f)) (hs : ∀ x, foldedSetIterable iter X.env x = pure x := by intro _; rfl)
    (hst : starEach [.SetComp elt [⟨tg, iter, ifs, 0⟩] scope pos1] X.env = (false, eval (.SetComp elt [⟨tg, iter, ifs, 0⟩] scope pos1) X.env) :: starEach [] X.env := by rfl) (hpl : (backTo pos (starEach [] X.env)).any (·.1) = false := by rfl) :
    PE X (.Call (.Name "sorted" p) [.SetComp elt [⟨tg, iter, ifs, 0⟩] scope pos1] [] pos) (tD e W (cSU kdP outP src (own.map (·.2)) g t f)) :=
  (pe_callB (cr_sortedT hc) hg1 hm1 (by decide +kernel) (pa_cons (pe_scU (o0 := fun L => SetTO X.prog X.w L []) (fun H h D ho => setTO_new (setTR_fresh ho).t0) B.hu hc hN hi (blkOk_by ok) (fun s H C cl fp => hg s H C cl fp (bd_blk B)) (fun s H C cl fp => ht s H C cl fp (bd_blk B)) (fun s H C cl fp => he s H C cl fp (bd_blk B)) hs) pa_nil hst) (by decide) (by decide) hst hpl).imp fun σ H Q h => by
    have h2 : tScU X.prog X.w e.K (fun L => SetTO X.prog X.w L []) (tI e W src) (tGx e (own.map (·.2)) g) (tT e W0 t) (tD e W0 f) (own.map (·.2)) σ H fun x H1 => rSortedT e.K X.prog X.w [x] H1 Q := tD_su (skP X.prog X.w e) h
    rw [← B.hK] at h2
    exact h2
theorem de_sortI (B : Bd e X W) (hc : X.calm = true) (hN : X.N.Nodup) (hg1 : Gl X "sorted") (hm1 : X.mg "sorted" = none) (hi : PI X tg iter (tI e W src)) (ok : blkC X.N X.env.scope scope own = true)
    (hg : ∀ (s : Shared) (H : Hp) (C : Addr) (cl : List (Str × Addr)) (fp : List Addr), Bd e (X.blk s H scope (compEnvC scope cl C X.env) fp) W0 → PG (X.blk s H scope (compEnvC scope cl C X.env) fp) tg (tGx e (own.map (·.2)) g)) (ht : ∀ (s : Shared) (H : Hp) (C : Addr) (cl : List (Str × Addr)) (fp : List Addr), Bd e (X.blk s H scope (compEnvC scope cl C X.env) fp) W0 → PTs (X.blk s H scope (compEnvC scope cl C X.env) fp) ifs (tT e W0 t))
    (he : ∀ (s : Shared) (H : Hp) (C : Addr) (cl : List (Str × Addr)) (fp : List Addr), Bd e (X.blk s H scope (compEnvC scope cl C X.env) fp) W0 → PE (X.blk s H scope (compEnvC scope cl C X.env) fp) elt (tD e W0 f)) (hs : ∀ x, foldedSetIterable iter X.env x = pure x := by intro _; rfl)
    (hst : starEach [.SetComp elt [⟨tg, iter, ifs, 0⟩] scope pos1] X.env = (false, eval (.SetComp elt [⟨tg, iter, ifs, 0⟩] scope pos1) X.env) :: starEach [] X.env := by rfl) (hpl : (backTo pos (starEach [] X.env)).any (·.1) = false := by rfl) :
    PE X (.Call (.Name "sorted" p) [.SetComp elt [⟨tg, iter, ifs, 0⟩] scope pos1] [] pos) (tD e W (cSU kdI outI src (own.map (·.2)) g t f)) :=
  (pe_callB (cr_sortedSet hc) hg1 hm1 (by decide +kernel) (pa_cons (pe_scU (o0 := fun L => SetO X.w L (fun _ => false) 0) (fun H h D ho => setO_new (setR_new0 ho)) B.hu hc hN hi (blkOk_by ok) (fun s H C cl fp => hg s H C cl fp (bd_blk B)) (fun s H C cl fp => ht s H C cl fp (bd_blk B)) (fun s H C cl fp => he s H C cl fp (bd_blk B)) hs) pa_nil hst) (by decide) (by decide) hst hpl).imp fun σ H Q h => by
    have h2 : tScU X.prog X.w e.K (fun L => SetO X.w L (fun _ => false) 0) (tI e W src) (tGx e (own.map (·.2)) g) (tT e W0 t) (tD e W0 f) (own.map (·.2)) σ H fun x H1 => rSortedSet X.w [x] H1 Q := tD_su (skI X.prog X.w e) h
    rw [← B.hK] at h2
    exact h2
end
end PD

/-! PD29: for x in o, o of an own class whose __iter__ returns iter(self.f) -/
namespace PD
open PySem PySem.Spec L2 L2H PyProof.Rows
/-- a def run at one state: what it promises may speak of this state -/
theorem at_of {CX : CXT} {Pg : Program} {w : World} {K : PySem.W.Frag} {mg : Str → Option Value} {base : Heap} {k : Nat} {f : Addr} {x qual : Str} {params : Arguments} {body : List Stmt} {scope : Scope} {dvs : List V} {kws : List (Str × V)} {fd : FuncData} {N ps : List Str}
    (F : FunD K x qual params body scope dvs kws f fd) (S : FnScope N ps scope) {A : Around} {outer : List Env} {s : Shared} {H : Hp} {args : Args} {us : List Value} {vs : List V} {Q : VK} {E : XK} (hl : vs.length = ps.length) (hr : Room (k + 1) A) (e0 : Env0 Pg w K mg base A outer s H) (hb : BindsTo s fd args (ps.zip us)) (r : Vals vs us)
    (hbody : ∀ (cdv : Value), Room k (A.deeper (envOfC qual scope s.heap.objs.size f cdv)) → ∃ t, PSs (cxOf CX Pg w K mg base N qual scope f cdv A outer s H E) body t ∧ t { nx := fun _ H' => Q .non H', rt := Q } (start N vs) H) :
    codeAny (model Pg w) A (.call (.ref f) args) (CR CX outer Pg w H s Q E) s := by
  obtain ⟨oc, od, dV, kV, doc, pm, an, cdv, ct, osl, rfl, lk, hcd, _, _⟩ := F.ex
  have KX : K.In s.heap := e0.mod.kin.keeps fun b o e => (e0.bs b o e).1
  have lim : s.heap.NoLimit := e0.mod.nolimit.keeps fun b o e => (e0.bs b o e).1
  have hkind : ∀ y ∈ ps.zip us, scope.names.lookup y.1 = some .local ∨ (scope.names.lookup y.1 = some .cell ∧ ((cellsFrom (s.heap.objs.size + 1) scope.names []).lookup y.1).isSome = true) := fun ⟨n, v⟩ hy => by
    rcases S.par n (List.of_mem_zip hy).1 with q | q
    · exact .inl q
    · exact .inr ⟨q, PySem.W.cellsFrom_some _ _ _ (.inl q)⟩
  refine codeAny_call_function hr.depth (KX _ _ lk) rfl S.co S.gen rfl (PySem.W.codeRec_of KX hcd) (hb _ _ _ _ ?_)
  refine wpAny_newFunctionEnv_cells S.kind hkind fun env he s1 x => ?_
  subst he
  refine ⟨lim.keeps x.toInCall.keep, codeAny_func ?_⟩
  obtain ⟨t, ht, hq⟩ := hbody cdv (hr.deeper _)
  have I := inv_start (CX := CX) (H := H) (E := E) (vs := vs) S hr.hd e0 hl r x
  refine wpAny_mono (ht.run [] s1 (start N vs) H _ I hq) (fun fl s' hs => ?_) fun e s' hs => hs
  have fin : ∀ {σ' : L2.St} {H' : Hp} {v : V} {u : Value}, Inv (cxOf CX Pg w K mg base N qual scope f cdv A outer s H E) [] σ' H' s' → RelV v u → Q v H' → CE outer Pg w H s Q u s' :=
    fun {σ' H' v u} J rv q => ⟨v, H', J.os, J.bare, J.base, J.hok, rv, q⟩
  cases fl with
  | ret u =>
    obtain ⟨v, σ', H', J, rv, q⟩ := hs
    exact fin J rv q
  | next =>
    obtain ⟨σ', H', J, q⟩ := hs
    exact fin (v := V.non) (u := Value.none) J rfl q
  | brk =>
    obtain ⟨_, _, _, q⟩ := hs
    exact False.elim q
  | cont =>
    obtain ⟨_, _, _, q⟩ := hs
    exact False.elim q
/-- what the text tells of C's __iter__ -/
structure ItF (Pg : Program) (w : World) (e : Ev) (mg : Str → Option Value) (base : Heap) (c fl : Nat) (f : Addr) : Prop where
  cls : Cls e.K (e.ga c)
  no : NoAttr e.K (e.ga c) (e.nm fl)
  m : Meth e.K (e.ga c) "__iter__" f
  ex : ∃ (qual : Str) (params : Arguments) (scope : Scope) (fd : FuncData) (p1 p2 p3 p4 p5 : Pos), FunD e.K "__iter__" qual params [.Return (some (.Call (.Name "iter" p1) [.Attribute (.Name "self" p2) (e.nm fl) p3] [] p4)) p5] scope [] [] f fd ∧ FnScope ["self"] ["self"] scope ∧
    Binds e.K fd ["self"] [] ∧ mg "iter" = none ∧
    (∀ (CX : CXT) (cdv : Value) (A : Around) (outer : List Env) (s : Shared) (H : Hp) (E : XK), Gl (cxOf CX Pg w e.K mg base ["self"] qual scope f cdv A outer s H E) "iter" ∧ Vis (cxOf CX Pg w e.K mg base ["self"] qual scope f cdv A outer s H E).env.scope "self" ∧
      attributeBase (.Name "self" p2) (e.nm fl) (cxOf CX Pg w e.K mg base ["self"] qual scope f cdv A outer s H E).env (eval (.Name "self" p2) (cxOf CX Pg w e.K mg base ["self"] qual scope f cdv A outer s H E).env) = eval (.Name "self" p2) (cxOf CX Pg w e.K mg base ["self"] qual scope f cdv A outer s H E).env ∧
      starEach [.Attribute (.Name "self" p2) (e.nm fl) p3] (cxOf CX Pg w e.K mg base ["self"] qual scope f cdv A outer s H E).env = (false, eval (.Attribute (.Name "self" p2) (e.nm fl) p3) (cxOf CX Pg w e.K mg base ["self"] qual scope f cdv A outer s H E).env) :: starEach [] (cxOf CX Pg w e.K mg base ["self"] qual scope f cdv A outer s H E).env ∧
      (backTo p4 (starEach [] (cxOf CX Pg w e.K mg base ["self"] qual scope f cdv A outer s H E).env)).any (·.1) = false)
section
variable {e : Ev} {W : WX} {P : Pre} {σ : L2.St} {G G1 G2 : List Sl} {H H1 H2 : Hp} {Z : Zo} {X : Cx} {c fl : Nat} {f : Addr} {fo : EF} {a tg : Expr} {pins : List (Addr × Obj)} {s : Shared}
/-- __iter__ is called -/
theorem it_call (B : Bd e X W) (F : ItF X.prog X.w e X.mg X.base c fl f) (hr : Room 1 X.A) (I : Inv X pins σ H s) {p dx l : Addr} {fs : List (Str × V)} {zs : List V} (hp : H p = some (.ins (e.ga c) dx fs)) (hf : fs.lookup (e.nm fl) = some (.ref l)) (hz : SqL e.K H l zs) :
    wpAny (model X.prog X.w) X.A (call (.ref f) [.ref p]) (EP X pins σ fun v H' => ∃ it, v = .ref it ∧ H it = none ∧ X.s_0.heap.objs.size ≤ it ∧ H' = upd H it (ItO l it 0)) X.xe s := by
  obtain ⟨qual, params, scope, fd, p1, p2, p3, p4, p5, FD, S, bd, hm, hg⟩ := F.ex
  have hK := B.hK
  have b := bd s [.ref p] (hK ▸ I.kIn) rfl
  have run : codeAny (model X.prog X.w) X.A (.call (.ref f) ⟨[.ref p], []⟩) (CR (L2.CX X.prog X.w) X.stack X.prog X.w H s (fun v H' => ∃ it, v = .ref it ∧ H it = none ∧ X.s_0.heap.objs.size ≤ it ∧ H' = upd H it (ItO l it 0)) (WE W σ)) s := by
    refine at_of (K := X.K) (k := 0) (hK.symm ▸ FD) S (vs := [.ref p]) (us := [.ref p]) rfl hr I.env0 b (.cons rfl .nil) fun cdv hr2 => ?_
    obtain ⟨g1, g2, g3, g4, g5⟩ := hg (L2.CX X.prog X.w) cdv X.A X.stack s H (WE W σ)
    rw [← hK] at g1 g2 g3 g4 g5
    refine ⟨_, pss_one (ps_ret (pe_callB ItX.call_iterN g1 hm (by decide +kernel) (pa_cons (pe_fld (pe_var (i := 0) rfl g2) g3) pa_nil g4) (by decide) (by decide) g4 g5)), ?_⟩
    show ∃ v, _ ∧ _
    refine ⟨.ref p, rfl, ?_⟩
    refine ⟨p, e.ga c, dx, fs, .ref l, rfl, hp, ?_, ?_, hf, ?_⟩
    · show Cls X.K _
      exact hK ▸ F.cls
    · show NoAttr X.K _ _
      exact hK ▸ F.no
    · refine ⟨l, zs, rfl, ?_, fun it h1 h2 => ⟨it, rfl, h1, Nat.le_trans I.sz h2, rfl⟩⟩
      show SqL X.K H l zs
      exact hK ▸ hz
  refine wpAny_call (codeAny_mono run fun r s' hq => ?_)
  cases r with
  | error e => exact passAt B.tk σ pins H s e s' I hq
  | ok fl =>
    cases fl with
    | ret u => exact I.after hq
    | next => exact False.elim hq
    | brk => exact False.elim hq
    | cont => exact False.elim hq
theorem itlF0 {K : PySem.W.Frag} {l : Addr} : ItX.ItlF K l 0 = Itl K l := by
  unfold ItX.ItlF
  simp only [Nat.zero_add]
def sIterO (c fl : Nat) (fo : EF) : F (List D) := fun G => (fo G).bind fun p G1 => match peek p G1 with
  | some (.obj c' ns ds) => if c' = c then (match lkN ns ds fl with
    | some (.lst xs) => .ok xs G1
    | _ => .bad) else .bad
  | _ => .bad
theorem di_iterO (B : Bd e X W) (F : ItF X.prog X.w e X.mg X.base c fl f) (hr : Room 1 X.A) (ho : PE X a (tD e W fo)) : PI X tg a (tI e W (sIterO c fl fo)) := by
  refine ⟨fun pins s σ H R I h => ?_⟩
  obtain ⟨P, G, S, h⟩ := h
  have hK := B.hK
  have h1 : tD e W fo σ H fun v H1 => ∃ p dx fs l zs, v = .ref p ∧ H1 p = some (.ins (e.ga c) dx fs) ∧ fs.lookup (e.nm fl) = some (.ref l) ∧ SqL e.K H1 l zs ∧ R (Itl X.K l) H1 := PostR.bindI S h fun pv G1 v H1 r q => by
    obtain ⟨S1, st1, t1⟩ := r.tmp
    split at q
    · rename_i c' ns ds hp
      split at q
      · rename_i hc
        subst hc
        split at q
        · rename_i xs hx
          obtain ⟨p, dx, fs, rfl, k1, k2, k3⟩ := (peek_ok S1 t1 hp).obj
          obtain ⟨v, k4, k5⟩ := lkN_ok k2 k3 hx
          obtain ⟨l, zs, rfl, k6, k7⟩ := k5
          exact ⟨p, dx, fs, l, zs, rfl, k1, k4, SqL.of k6.2, q _ H1 S1 st1 (it_list (.inl ⟨k6.1, .inl k6.2⟩) k7)⟩
        · exact q.elim
      · exact q.elim
    · exact q.elim
  refine thn (ho.run pins s σ H _ I h1) fun u s1 ⟨v, H1, I1, r1, p, dx, fs, l, zs, ev, hp, hf, hz, q⟩ => ?_
  subst ev
  obtain rfl : u = Value.ref p := r1
  obtain ⟨ox, od, J⟩ := inst_of I1 hp
  obtain ⟨m', hF⟩ := I1.fr
  refine PySem.W.owit_iter hF I1.ok.mod.kin J (hK ▸ F.m.at_) (hK ▸ F.m.fn) (wpAny_mono (it_call B F hr I1 hp hf hz) (fun v' s2 hv => ?_) fun _ _ x => x)
  obtain ⟨x, H', I2, r2, it, rfl, n1, n2, eH⟩ := hv
  obtain rfl : v' = Value.ref it := r2
  subst eH
  have hi : (upd H1 it (ItO l it 0)) it = some (ItO l it 0) := upd_same
  have eo := itO_get I2 hi
  unfold PySem.W.OwitIt
  refine wpAny_specialOf (T := "list_iterator") ⟨_, eo, rfl⟩ slot_listiter_next.lookup ?_
  have st : s2.heap.IsListIter it l (0 + 0) := ⟨_, eo, rfl, rfl⟩
  have hi' := hi
  unfold ItO at hi'
  refine ⟨it, [it], _, _, ItX.dropH (upd H1 it (ItO l it 0)) it, rfl, ItX.inv_drop I2 hi', ItX.turn_listF l it 0, st, fun b hb => ?_, ?_⟩
  · have e1 : b = it := by simpa using hb
    rw [e1]
    exact ItX.inv_fp I2 hi n2
  · rw [ItX.dropH_upd n1, itlF0]
    exact q
end
end PD

/-! PD30: bool(o), x in o; lists that are changed -/
namespace PD
open PySem PySem.Spec PySem.Calls PyProof.Rows L2 L2H
section
variable {prog : Program} {w : World} {A : Around} {E : Value → Shared → Prop} {s : Shared}
theorem call_bool_any {x : Value} {Q : Value → Shared → Prop} (h : wpAny (model prog w) A.in1.in1 (truthy x) (fun b s' => Q (.bool b) s') E s) : wpAny (model prog w) A (call (.type "bool") [x]) Q E s := by
  refine callType_codes (T := "bool") (Bi := Builtin.«object.__init__») (Q₁ := fun r s₁ => ∃ b, r = .bool b ∧ Q r s₁) PySem.F.called_bool (PySem.F.typeCall_bool_1 _) PySem.F.entry_object_init ?_ ?_
  · refine codeAny_of_tree ?_
    show wpAny _ A.in1.in1 (do checkBuiltinCall "bool.__new__" ⟨[.type "bool", x], []⟩; again (.builtin "bool.__new__" ⟨[.type "bool", x], []⟩)) _ _ s
    refine wpAny_bind (wpAny_of_eq (PySem.F.newCall_bool_1 _) (wpAny_pure ⟨plainId_quiet (by decide +kernel) _, codeAny_builtin PySem.F.entry_bool_new ?_⟩))
    rw [Around.under_plainId (by decide +kernel) _]
    have f1 := F.conv_sub_bool
    unfold Builtin.«bool.__new__»
    dsimp only
    repeat (first
      | (refine wpAny_bind (m := truthy x) (wpAny_mono h (fun b s₁ hb => wpAny_pure ⟨b, rfl, hb⟩) fun _ _ y => y))
      | assumption
      | wp_step)
  · rintro obj s₁ ⟨y, rfl, hq⟩
    exact ⟨rfl, PySem.F.args_object_init_2 _ _, object_init_meets PySem.F.called_bool.init.lookup PySem.F.called_bool.made (by decide) prog w A.in1 _ s₁ ⟨rfl, rfl, hq⟩⟩
end
section
variable {e : Ev} {W : WX} {P : Pre} {σ : L2.St} {G G1 G2 : List Sl} {H H1 H2 : Hp} {Z : Zo} {X : Cx} {pos : Pos} {a b : Expr} {fa fb fo : EF} {fs : AF} {c n : Nat} {m : MF} {mds : List Md} {f : Addr}
theorem oo_bool (B : Bd e X W) (hm : Meth e.K (e.ga c) "__bool__" f) (cb : Clb2 X W f (spD e 1 m)) : OnO X e W kBlO c m fun v => call (.type "bool") [v] := by
  intro pins s σ H q Q I hi h
  obtain ⟨q, dx, fs, e1, hq⟩ := hi
  cases e1
  obtain ⟨ox, od, J⟩ := inst_of I hq
  obtain ⟨m', hF⟩ := I.fr
  have hK := B.hK
  refine call_bool_any (PySem.W.truthy_K hF I.ok.mod.kin J (hK ▸ hm.at_) (hK ▸ hm.fn) (wpAny_mono (cb pins s σ H [.ref q] [.ref q] _ I (.cons rfl .nil) h) (fun v s' z => ?_) fun _ _ x => x))
  obtain ⟨x, H', I', r, y, rfl, q⟩ := z
  cases r
  exact ⟨.bl y, H', I', rfl, q⟩
/-! ### x in o -/
def inR (neg : Bool) (r : R PV) : R PV := match r with
  | .ok (.val (.bl b)) G => .ok (.val (.bl (neg != b))) G
  | .ex c ns ds G => .ex c ns ds G
  | _ => .bad
def kInO (neg : Bool) (Q : VK) : VK := fun v H2 => ∃ b, v = .bl b ∧ Q (.bl (neg != b)) H2
theorem fin_in {neg : Bool} : FinK e (inR neg) (kInO neg) := ⟨fun W P σ Z H r Q q => by
  cases r with
  | bad => exact q.elim
  | ex c ns ds G2 => exact q
  | ok pv G2 =>
    unfold inR at q
    split at q
    · rename_i e1; cases e1
      intro v H2 r
      obtain ⟨S2, st2, rfl⟩ := r
      exact ⟨_, rfl, q _ H2 ⟨S2, st2, rfl⟩⟩
    · rename_i e1; cases e1
    · exact q.elim⟩
def cOIn (neg : Bool) (c : Nat) (m : MF) (mds : List Md) (fa fb : EF) : EF := fun G => (fa G).bind fun a G1 => (fb G1).bind fun b G2 => if obC c b G2 = true then inR neg (runC m mds [b, a] G2) else .bad
theorem tD_OIn {neg : Bool} {Q : VK} (hn : mds.length = 2) (h : tD e W (cOIn neg c m mds fa fb) σ H Q) : tD e W fa σ H fun x H1 => tD e W fb σ H1 fun y H2 => InsR e c H2 y ∧ spD e 2 m [y, x] H2 (kInO neg Q) (WE W σ) := by
  refine tD_two h fun P G Z0 H0 H a b v u S ta tb st q => ?_
  split at q
  · rename_i hob
    exact ⟨obC_ok S tb hob, runC_ok S (ps := [b, a]) ⟨_, _, rfl, tb, _, _, rfl, ta, rfl⟩ st hn (fin_in.ok _ _ _ _ _ _ _ q)⟩
  · exact q.elim
def rOIn (e : Ev) (W : WX) (neg : Bool) (c : Nat) (m : MF) : L2.St → V → V → Hp → VK → Prop := fun σ x y H Q => InsR e c H y ∧ spD e 2 m [y, x] H (kInO neg Q) (WE W σ)
theorem de_inO {neg : Bool} {op : CmpOp} (ho : OpO X (compareOp op) (rOIn e W neg c m)) (hn : mds.length = 2) (ha : PE X a (tD e W fa)) (hb : PE X b (tD e W fb)) (hm : behindInMarks op b = false) : PE X (.Compare a [op] [b] pos) (tD e W (cOIn neg c m mds fa fb)) :=
  ⟨fun pins s σ H Q I h => wpAny_Compare1 (binT ha hb I (tD_OIn hn h) fun v u s2 x y H2 I2 rx ry q => ho pins s2 σ H2 x y v u Q I2 rx ry q) hm⟩
theorem ow_in (B : Bd e X W) (hm : Meth e.K (e.ga c) "__contains__" f) (cb : Clb X W f (spD e 2 m)) : OpO X (compareOp .In) (rOIn e W false c m) := by
  intro pins s σ H x y v u Q I rx ry h
  obtain ⟨⟨q, dx, fs, rfl, hq⟩, h⟩ := h
  obtain rfl : u = Value.ref q := ry
  obtain ⟨ox, od, J⟩ := inst_of I hq
  obtain ⟨m', hF⟩ := I.fr
  have hK := B.hK
  refine PySem.W.in_K hF I.ok.mod.kin J (hK ▸ hm.at_) (hK ▸ hm.fn) (wpAny_mono (cb pins s σ H [.ref q, x] [.ref q, v] _ I (.cons rfl (.cons rx .nil)) h) (fun v' s' z => ?_) fun _ _ x => x)
  obtain ⟨x', H', I', r, y, rfl, q⟩ := z
  cases r
  refine wpAny_truthy_bool ⟨.bl y, H', I', rfl, ?_⟩
  rwa [Bool.false_bne] at q
theorem ow_notin (B : Bd e X W) (hm : Meth e.K (e.ga c) "__contains__" f) (cb : Clb X W f (spD e 2 m)) : OpO X (compareOp .NotIn) (rOIn e W true c m) := by
  intro pins s σ H x y v u Q I rx ry h
  obtain ⟨⟨q, dx, fs, rfl, hq⟩, h⟩ := h
  obtain rfl : u = Value.ref q := ry
  obtain ⟨ox, od, J⟩ := inst_of I hq
  obtain ⟨m', hF⟩ := I.fr
  have hK := B.hK
  refine PySem.W.notIn_K hF I.ok.mod.kin J (hK ▸ hm.at_) (hK ▸ hm.fn) (wpAny_mono (cb pins s σ H [.ref q, x] [.ref q, v] _ I (.cons rfl (.cons rx .nil)) h) (fun v' s' z => ?_) fun _ _ x => x)
  obtain ⟨x', H', I', r, y, rfl, q⟩ := z
  cases r
  refine wpAny_truthy_bool ⟨.bl (!y), H', I', rfl, ?_⟩
  rwa [Bool.true_bne] at q
/-! ### lists that are changed by a method -/
def cMut (i : Nat) (kf : List D → List D → Option (List D × D)) (fs : AF) : EF := fun G => match wrD i G with
  | some (.lst _, _) => (fs G).bind fun ps G1 => (match escs ps G1 with
    | some (ds, G2) => (match wrD i G2 with
      | some (.lst xs, s) => (match kf xs ds with
        | some (ys, r) => .ok (.val r) (G2.set i (putSl (.lst ys) s))
        | none => .bad)
      | _ => .bad)
    | none => .bad)
  | _ => .bad
/-- the rule serves the table -/
def MutK (e : Ev) (kf : List D → List D → Option (List D × D)) (r : V → List V → Hp → VK → Prop) : Prop :=
  ∀ (Z : Zo) (H : Hp) (l : Addr) (zs us : List V) (xs ds ys : List D) (d : D) (Q : VK), H l = some (.lst zs) → Rps e Z H xs zs → Rps e Z H ds us → kf xs ds = some (ys, d) → (∀ zs' v, Rps e Z H ys zs' → Rp e Z H d v → Q v (upd H l (.lst zs'))) → r (.ref l) us H Q
theorem mut_main {kf : List D → List D → Option (List D × D)} {r : V → List V → Hp → VK → Prop} {K : PySem.W.Frag} {i : Nat} {Q : VK} (mk : MutK e kf r) (h : tD e W (cMut i kf fs) σ H Q) :
    ∃ p, σ[i]? = some (some (.ref p)) ∧ tyV K "list" (.ref p) H ∧ tA e W fs σ H fun us H1 => r (.ref p) us H1 Q := by
  obtain ⟨P, G, S, h⟩ := h
  unfold cMut at h
  split at h
  · rename_i ds0 s0 q0
    obtain ⟨_, _, p, hp, hA⟩ := wrD_ok S q0
    obtain ⟨vs0, h2, _⟩ := hA
    refine ⟨p, hp, .inl ⟨rfl, vs0, SqL.of h2⟩, ?_⟩
    refine tA_at S (Step.refl _ _) (h.bind.mono (fun ps G1 h us H1 S1 st1 t1 => ?_) fun _ _ s => s)
    split at h
    · rename_i ds G2 q1
      obtain ⟨S2, st2, r2⟩ := escs_ok S1 t1 q1
      split at h
      · rename_i xs s q2
        obtain ⟨g2, k2, p', hp', vs, a1, a2⟩ := wrD_ok S2 q2
        rw [hp] at hp'; cases hp'
        split at h
        · rename_i ys d hk
          have za : Zn P G2 σ p := (S2.slotAddr (i := i) (d := .lst xs) (by
            unfold wrD at q2
            split at q2 <;> cases q2
            · exact .inl (by assumption)
            · exact .inr (.inl (by assumption)))).elim fun a z => by
              have e1 := z.1
              rw [hp] at e1; cases e1; exact z.2.1
          refine mk _ H1 p vs us xs ds ys d Q a1 a2 r2 hk fun zs' v rz rv => ?_
          have hA : At e (Zn P G2 σ) (upd H1 p (.lst zs')) (.lst ys) p := ⟨zs', upd_same, step_zone_upd za rz⟩
          obtain ⟨S3, st3⟩ := S2.write g2 k2 hp hA
          exact h _ _ ⟨S3, (st1.trans st2).trans st3, Rp.step st3 _ _ rv⟩
        · exact h.elim
      · exact h.elim
    · exact h.elim
  · exact h.elim
section
variable {i : Nat} {x name : Str} {xp apos : Pos} {es : List Expr} {id : String} {kf : List D → List D → Option (List D × D)} {r : V → List V → Hp → VK → Prop}
theorem de_mut (hN : X.N[i]? = some x) (hv : Vis X.env.scope x) (slot : Slot "list" name id) (hty : typeOf (.builtin id) = pure (.type "method_descriptor")) (hm : MtR X id r) (mk : MutK e kf r) (ha : PA X (a :: es) (tA e W fs))
    (hd : (x == ("__debug__" : Str)) = false := by decide) (hcd : (x == ("__classdict__" : Str)) = false := by decide)
    (hbase : attributeBase (.Name x xp) name X.env (eval (.Name x xp) X.env) = eval (.Name x xp) X.env := by rfl)
    (hfew : ((backTo pos (starEach (a :: es) X.env)).all (fun x => !x.1) && (backToKw pos (keywordEach [] X.env)).all (fun x => x.1.isSome) && decide ((a :: es).length + ([] : List Keyword).length + (if ([] : List Keyword).isEmpty then 0 else 1) < 30)) = true := by rfl)
    (hline : (apos.endLine == pos.line) = true := by rfl) (hs : starEach (a :: es) X.env = (false, eval a X.env) :: starEach es X.env := by rfl) (hplain : (backTo pos (starEach es X.env)).any (·.1) = false := by rfl) :
    PE X (.Call (.Attribute (.Name x xp) name apos) (a :: es) [] pos) (tD e W (cMut i kf fs)) :=
  (pe_bm PySem.F.plainAttrs_list slot hty hm (pe_var hN hv hd hcd) ha hbase hfew hline hs hplain).imp fun σ H Q h => by
    obtain ⟨p, h1, h2, h3⟩ := mut_main (K := X.K) mk h
    exact ⟨_, h1, h2, h3⟩
theorem de_mut0 (hN : X.N[i]? = some x) (hv : Vis X.env.scope x) (slot : Slot "list" name id) (hty : typeOf (.builtin id) = pure (.type "method_descriptor")) (hm : MtR X id r) (mk : MutK e kf r)
    (hd : (x == ("__debug__" : Str)) = false := by decide) (hcd : (x == ("__classdict__" : Str)) = false := by decide)
    (hbase : attributeBase (.Name x xp) name X.env (eval (.Name x xp) X.env) = eval (.Name x xp) X.env := by rfl) (hline : (apos.endLine == pos.line) = true := by rfl) :
    PE X (.Call (.Attribute (.Name x xp) name apos) [] [] pos) (tD e W (cMut i kf aNil)) :=
  (pe_bm0 PySem.F.plainAttrs_list slot hty hm (pe_var hN hv hd hcd) hbase hline).imp fun σ H Q h => by
    obtain ⟨p, h1, h2, P, G, S, h3⟩ := mut_main (K := X.K) mk h
    exact ⟨_, h1, h2, h3 [] H S (Step.refl _ _) rfl⟩
end
/-! ### insert, clear, reverse, pop -/
def kInsert : List D → List D → Option (List D × D)
  | xs, [.int i, d] => if 0 ≤ i ∧ i.natAbs < 1000000 ∧ xs.length < 1000000 then some (xs.take i.toNat ++ [d] ++ xs.drop i.toNat, .non) else none
  | _, _ => none
theorem mk_insert : MutK e kInsert (fun x vs H Q => ∃ (l : Addr) (xs : List V) (i : Int) (y : V), x = .ref l ∧ vs = [.int i, y] ∧ H l = some (.lst xs) ∧ xs.length < sizeLine ∧ 0 ≤ i ∧ i < 2 ^ 63 ∧
    Q .non (upd H l (.lst (xs.take i.toNat ++ [y] ++ xs.drop i.toNat)))) := by
  intro Z H l zs us xs ds ys d Q hl rx rd hk q
  unfold kInsert at hk
  split at hk
  · split at hk
    · rename_i i d' hc
      cases hk
      obtain ⟨v, r, rfl, e1, h2⟩ := rd
      cases e1
      obtain ⟨v, r, rfl, e2, h3⟩ := h2
      cases h3
      have h63 : (2 : Int) ^ 63 = 9223372036854775808 := rfl
      have rs : Rps e Z H [d'] [v] := ⟨v, [], rfl, e2, rfl⟩
      refine ⟨l, zs, i, v, rfl, rfl, hl, ?_, hc.1, by rw [h63]; omega, q _ _ (((rx.take _).append rs).append (rx.drop _)) rfl⟩
      rw [rx.length, sizeLine_eq]; omega
    · cases hk
  · cases hk
def kClear : List D → List D → Option (List D × D) := fun _ ds => if ds.isEmpty = true then some ([], .non) else none
theorem mk_clear : MutK e kClear rClear := by
  intro Z H l zs us xs ds ys d Q hl rx rd hk q
  unfold kClear at hk
  split at hk
  · rename_i hc
    cases hk
    have : ds = [] := List.isEmpty_iff.mp hc
    subst this
    cases rd
    exact ⟨l, zs, rfl, rfl, hl, q [] _ rfl rfl⟩
  · cases hk
theorem Rps.reverse {e : Ev} {Z : Zo} {H : Hp} : ∀ {ds : List D} {vs : List V}, Rps e Z H ds vs → Rps e Z H ds.reverse vs.reverse
  | [], _, h => by cases h; rfl
  | d :: ds, _, h => by
    obtain ⟨v, r, rfl, h1, h2⟩ := h
    rw [List.reverse_cons, List.reverse_cons]
    have rs : Rps e Z H [d] [v] := ⟨v, [], rfl, h1, rfl⟩
    exact (Rps.reverse h2).append rs
def kReverse : List D → List D → Option (List D × D) := fun xs ds => if ds.isEmpty = true then some (xs.reverse, .non) else none
theorem mk_reverse : MutK e kReverse rReverse := by
  intro Z H l zs us xs ds ys d Q hl rx rd hk q
  unfold kReverse at hk
  split at hk
  · rename_i hc
    cases hk
    have : ds = [] := List.isEmpty_iff.mp hc
    subst this
    cases rd
    exact ⟨l, zs, rfl, rfl, hl, q _ _ rx.reverse rfl⟩
  · cases hk
def kPop : List D → List D → Option (List D × D)
  | xs, [] => (xs[xs.length - 1]?).map fun d => (xs.dropLast, d)
  | xs, [.int i] => if 0 ≤ i ∧ i.natAbs < 1000000 then (xs[i.toNat]?).map fun d => (xs.eraseIdx i.toNat, d) else none
  | _, _ => none
theorem Rps.dropLast {e : Ev} {Z : Zo} {H : Hp} {ds : List D} {vs : List V} (h : Rps e Z H ds vs) : Rps e Z H ds.dropLast vs.dropLast := by
  rw [List.dropLast_eq_take, List.dropLast_eq_take, h.length]
  exact h.take _
theorem mk_pop : MutK e (fun xs ds => if ds.isEmpty = true then kPop xs ds else none) rPop := by
  intro Z H l zs us xs ds ys d Q hl rx rd hk q
  dsimp only at hk
  split at hk
  · rename_i hc
    have : ds = [] := List.isEmpty_iff.mp hc
    subst this
    cases rd
    simp only [kPop, Option.map_eq_some_iff] at hk
    obtain ⟨d', hg, e1⟩ := hk
    cases e1
    obtain ⟨v, k1, k2⟩ := rx.get hg
    exact ⟨l, zs, v, rfl, rfl, hl, by rw [rx.length]; exact k1, q _ _ rx.dropLast k2⟩
  · cases hk
/-! ### xs[::-1] -/
def cRevL (fo : EF) : EF := fun G => (fo G).bind fun p G1 => match peek p G1 with
  | some (.lst xs) => .ok (.fr (.lst xs.reverse)) G1
  | some (.fz xs) => .ok (.fr (.lst xs.reverse)) G1
  | _ => .bad
theorem de_revL {k : Nat} {p1 p2 p3 : Pos} (hK : X.K = e.K) (ha : PE X a (tD e W fo)) : PE X (.Subscript a (.Slice none none (some (.UnaryOp .USub (.Constant (.int 1) k p1) p2)) p3) pos) (tD e W (cRevL fo)) := (L2.pe_revL ha).imp fun σ H Q h => by
  refine tD_then h fun P G Z0 H0 H1 p v r q => ?_
  obtain ⟨S, st, t⟩ := r.tmp
  split at q
  · rename_i xs hp
    obtain ⟨a, vs, rfl, h1, h2⟩ := (peek_ok S t hp).lst
    exact ⟨a, vs, rfl, SqL.of h1, fun p hp => q _ _ (((Out.newL hp h2.reverse).res S).from_ st)⟩
  · rename_i xs hp
    obtain ⟨a, vs, rfl, h1, h2⟩ := (peek_ok S t hp).fz
    exact ⟨a, vs, rfl, hK ▸ h1, fun p hp => q _ _ (((Out.newL hp h2.reverse).res S).from_ st)⟩
  · exact q.elim
end
end PD

/-! PD31: list(o), o of an own class with __iter__ (iter(self.f)) and __len__ -/
namespace PD
open PySem PySem.Spec PySem.Calls PyProof.Rows L2 L2H
section
variable {X : Cx} {pins : List (Addr × Obj)} {σ : L2.St} {A1 : Around} {l it q : Addr} {zs : List V} {Rs : Result → Shared → Prop}
theorem fpOk_upd {H : Hp} {o : HO} (h : FpOk X pins H it) (n : it ≠ q) : FpOk X pins (upd H q o) it := by
  obtain ⟨f0, f1, f2, f3, f4, f5⟩ := h
  exact ⟨by rw [upd_ne n]; exact f0, f1, f2, f3, f4, f5⟩
theorem ext_loop (hh : A1.in1.handled = none) (nl : q ≠ l) (nq : it ≠ q) (hz : zs.length ≤ sizeLine) : ∀ (k i : Nat) (s : Shared) (H : Hp), zs.length - i = k → i ≤ zs.length → Inv X pins σ H s → FpOk X pins H it → s.heap.IsListIter it l i → H l = some (.lst zs) → H q = some (.lst (zs.take i)) →
    (∀ s', Inv X pins σ (upd H q (.lst zs)) s' → Rs (.ok (.ret .none)) s') → codeAny (model X.prog X.w) A1 (.builtin "list.extend.loop" ⟨[.ref q, .ref it, .none], []⟩) Rs s := by
  intro k
  induction k with
  | zero =>
    intro i s H hk hi I fp st hl hq hR
    have hin : i = zs.length := by omega
    subst hin
    refine codeAny_builtin PySem.F.entry_extend_loop ?_
    rw [Around.under_plainId PySem.F.plain_extend_loop _]
    show wpAny _ A1.in1 (pyNext (.ref it) >>= _) _ _ s
    obtain ⟨its, rv, pl, _⟩ := I.list (SqL.of hl)
    have hlen := rv.length
    obtain ⟨f0, f1, f2, f3, f4, f5⟩ := fp
    refine wpAny_bind (wpAny_pyNext_list_end hh st pl.isList (by simp; omega) fun h' eb => ?_)
    have I1 : Inv X pins σ H { s with heap := h' } := I.turned (t' := s.toks) (fun b o hb e => eb b o hb e) f0 f1 f3 f4 f5
    refine wpAny_pure (hR _ ?_)
    have : upd H q (.lst zs) = H := by
      funext b
      by_cases hb : b = q
      · subst hb; rw [upd_same, hq, List.take_length]
      · rw [upd_ne hb]
    rw [this]
    exact I1
  | succ k ih =>
    intro i s H hk hi I fp st hl hq hR
    have hlt : i < zs.length := by omega
    refine codeAny_builtin PySem.F.entry_extend_loop ?_
    rw [Around.under_plainId PySem.F.plain_extend_loop _]
    show wpAny _ A1.in1 (pyNext (.ref it) >>= _) _ _ s
    obtain ⟨its, rv, pl, _⟩ := I.list (SqL.of hl)
    obtain ⟨u, hu, ru⟩ := rv.get (List.getElem?_eq_getElem hlt)
    obtain ⟨f0, f1, f2, f3, f4, f5⟩ := id fp
    refine wpAny_bind (wpAny_pyNext_list_item st pl.isList (x := u) (by simpa using hu) fun h' st' sb => ?_)
    have I1 : Inv X pins σ H { s with heap := h' } := I.turned (t' := s.toks) (fun b o hb e => (sb.2 b hb).trans e) f0 f1 f3 f4 f5
    obtain ⟨z, its2, n2, r2, hl2, e2⟩ := I1.lstM hq
    show wpAny _ A1.in1 (updateSeq q (·.push u) >>= _) _ _ _
    refine wpAny_bind ?_
    have hv : Vals (zs.take (i + 1)) (its2 ++ [u]) := by
      rw [List.take_succ, List.getElem?_eq_getElem hlt]
      exact r2.append (.cons ru .nil)
    have htl : (zs.take (i + 1)).length ≤ sizeLine := by simp; omega
    have hsz : its2.length ≤ i := by rw [← hl2]; simp; omega
    refine wpAny_updateSeq e2 rfl (wpAny_pure ⟨plainId_quiet PySem.F.plain_extend_loop _, ?_⟩) (by simp; omega) (by simp; omega)
    have I2 := I1.lset (f := (·.push u)) (its' := its2 ++ [u]) (ys := zs.take (i + 1)) (t' := s.toks) hq e2 (by simp) hv htl
    refine ih (i + 1) _ _ (by omega) hlt I2 (fpOk_upd fp nq) ?_ (by rw [upd_ne nl.symm]; exact hl) upd_same fun s' I' => hR s' ?_
    · obtain ⟨o, e, c, d⟩ := st'
      exact ⟨o, (Heap.get?_update_other _ _ (Ne.symm nq)).trans e, c, d⟩
    · rw [upd_upd] at I'
      exact I'
end
section
variable {e : Ev} {W : WX} {P : Pre} {σ : L2.St} {G G1 G2 : List Sl} {H H1 H2 : Hp} {Z : Zo} {X : Cx} {c fl n : Nat} {f f2 : Addr} {m : MF} {fo : EF} {a : Expr} {pins : List (Addr × Obj)} {s : Shared} {A1 : Around}
theorem env0A (sb : Sub X n A1) (I : Inv X pins σ H s) : Env0 X.prog X.w X.K X.mg X.base A1 X.stack s H := by
  have e := I.env0
  exact ⟨by rw [sb.fr]; exact e.frames, e.mod, e.bs, e.bsz, e.funs, e.frf, e.hok, e.bare⟩
/-- __iter__ is called, deeper -/
theorem it_callA (B : Bd e X W) (F : ItF X.prog X.w e X.mg X.base c fl f) (sb : Sub X 1 A1) (I : Inv X pins σ H s) {p dx l : Addr} {fs : List (Str × V)} {zs : List V} (hp : H p = some (.ins (e.ga c) dx fs)) (hf : fs.lookup (e.nm fl) = some (.ref l)) (hz : SqL e.K H l zs) :
    wpAny (model X.prog X.w) A1 (call (.ref f) [.ref p]) (EP X pins σ fun v H' => ∃ it, v = .ref it ∧ H it = none ∧ X.s_0.heap.objs.size ≤ it ∧ H' = upd H it (ItO l it 0)) X.xe s := by
  obtain ⟨qual, params, scope, fd, p1, p2, p3, p4, p5, FD, S, bd, hm, hg⟩ := F.ex
  have hK := B.hK
  have b := bd s [.ref p] (hK ▸ I.kIn) rfl
  have run : codeAny (model X.prog X.w) A1 (.call (.ref f) ⟨[.ref p], []⟩) (CR (L2.CX X.prog X.w) X.stack X.prog X.w H s (fun v H' => ∃ it, v = .ref it ∧ H it = none ∧ X.s_0.heap.objs.size ≤ it ∧ H' = upd H it (ItO l it 0)) (WE W σ)) s := by
    refine at_of (K := X.K) (k := 0) (hK.symm ▸ FD) S (vs := [.ref p]) (us := [.ref p]) rfl sb.room (env0A sb I) b (.cons rfl .nil) fun cdv hr2 => ?_
    obtain ⟨g1, g2, g3, g4, g5⟩ := hg (L2.CX X.prog X.w) cdv A1 X.stack s H (WE W σ)
    rw [← hK] at g1 g2 g3 g4 g5
    refine ⟨_, pss_one (ps_ret (pe_callB ItX.call_iterN g1 hm (by decide +kernel) (pa_cons (pe_fld (pe_var (i := 0) rfl g2) g3) pa_nil g4) (by decide) (by decide) g4 g5)), ?_⟩
    show ∃ v, _ ∧ _
    refine ⟨.ref p, rfl, ?_⟩
    refine ⟨p, e.ga c, dx, fs, .ref l, rfl, hp, ?_, ?_, hf, ?_⟩
    · show Cls X.K _
      exact hK ▸ F.cls
    · show NoAttr X.K _ _
      exact hK ▸ F.no
    · refine ⟨l, zs, rfl, ?_, fun it h1 h2 => ⟨it, rfl, h1, Nat.le_trans I.sz h2, rfl⟩⟩
      show SqL X.K H l zs
      exact hK ▸ hz
  refine wpAny_call (codeAny_mono run fun r s' hq => ?_)
  cases r with
  | error e => exact passAt B.tk σ pins H s e s' I hq
  | ok fl =>
    cases fl with
    | ret u => exact I.after hq
    | next => exact False.elim hq
    | brk => exact False.elim hq
    | cont => exact False.elim hq
/-- a def called deeper, that raises nothing -/
theorem call_deep {k : Nat} {ps : List Str} (B : Bd e X W) (q : Q_ X.prog X.w e X.mg X.base k f ps n m) (sb : Sub X k A1) (I : Inv X pins σ H s) {vs : List V} {us : List Value} {Q : VK} {E : Value → Shared → Prop} (r : Vals vs us) (h : spD e n m vs H Q (fun _ _ _ => False)) :
    wpAny (model X.prog X.w) A1 (call (.ref f) us) (EP X pins σ Q) E s := by
  obtain ⟨fd, F, b, _⟩ := q
  have hK := B.hK
  have F' : FnOk X.prog X.w X.K X.mg X.base (L2.CX X.prog X.w) k f fd ps (spD e n m) := hK ▸ F
  have hl : us.length = ps.length := by rw [← r.length]; exact F.len _ _ _ _ h
  have b2 := b s us (hK ▸ I.kIn) (by rw [List.append_nil]; exact hl)
  rw [List.append_nil] at b2
  refine wpAny_call (codeAny_mono (F'.run A1 X.stack s H ⟨us, []⟩ us vs Q _ sb.room (env0A sb I) b2 r h) fun r s' hq => ?_)
  cases r with
  | error e => 
    obtain ⟨_, _, _, _, _, _, _, _, _, _, _, _, hE⟩ := hq
    exact hE.elim
  | ok fl =>
    cases fl with
    | ret u => exact I.after hq
    | next => exact False.elim hq
    | brk => exact False.elim hq
    | cont => exact False.elim hq
/-- the new list's room: __len__ is asked -/
theorem hint_own {k : Nat} {ps : List Str} (B : Bd e X W) (hm : Meth e.K (e.ga c) "__len__" f2) (q : Q_ X.prog X.w e X.mg X.base k f2 ps 1 m) (sb : Sub X (k + 1) A1) (I : Inv X pins σ H s) {p dx : Addr} {fs : List (Str × V)} (hp : H p = some (.ins (e.ga c) dx fs)) {R : Hp → Prop} {Q : Bool → Shared → Prop} {E : Value → Shared → Prop}
    (h : spD e 1 m [.ref p] H (fun v H2 => ∃ n, v = .int n ∧ (0 ≤ n ∧ n.natAbs ≤ 1000000) ∧ R H2) (fun _ _ _ => False)) (hQ : ∀ b s' H2, Inv X pins σ H2 s' → R H2 → Q b s') :
    wpAny (model X.prog X.w) A1 (Builtin.List.listLengthHint (.ref p)) Q E s := by
  obtain ⟨ox, od, J⟩ := inst_of I hp
  obtain ⟨m', hF⟩ := I.fr
  have hK := B.hK
  unfold Builtin.List.listLengthHint
  refine wpAny_bind (wpAny_bind (J.type.here ((PySem.W.looks_findIn I.kIn (hK ▸ hm.at_)).here ?_)))
  refine PySem.W.KFB.if_not rfl ?_
  refine PySem.W.KFB.if_so rfl ?_
  refine wpAny_bind (wpAny_rule ?_)
  refine wpAny_bind (wpAny_attempt ?_)
  have hlen : wpAny (model X.prog X.w) A1 (call (.builtin "len") [.ref p]) (fun v s' => ∃ n t, v = .int n t ∧ n.natAbs ≤ 1000000 ∧ ∃ H2, Inv X pins σ H2 s' ∧ R H2) (fun _ _ => False) s := by
    refine PySem.W.len_K hF I.ok.mod.kin J (hK ▸ hm.at_) (hK ▸ hm.fn) (wpAny_mono (call_deep B q sb.in1 I (vs := [.ref p]) (us := [.ref p]) (.cons rfl .nil) h) (fun v s' z => ?_) fun _ _ x => x)
    obtain ⟨x, H', I', r, y, rfl, hn, q⟩ := z
    obtain ⟨t, rfl⟩ := r
    have h63 : (2 : Int) ^ 63 = 9223372036854775808 := rfl
    exact ⟨⟨hn.1, by rw [h63]; omega⟩, _, _, rfl, hn.2, H', I'.tok _, q⟩
  refine wpAny_mono hlen (fun v s' hv => ?_) fun _ _ x => x.elim
  obtain ⟨n, t, rfl, hn, H2, I2, hR⟩ := hv
  show wpAny _ _ (asInt? (.int n t) >>= _) _ _ _
  refine wpAny_bind (wpAny_pure ?_)
  dsimp only
  have hl : Builtin.List.listTooLong n.toNat = false := notLongL (by rw [sizeLine_eq]; omega)
  rw [hl]
  simp only [Bool.false_eq_true, if_false]
  exact wpAny_pure (hQ _ _ _ I2 hR)
theorem list_own {k : Nat} {ps : List Str} (B : Bd e X W) (hc : X.calm = true) (F : ItF X.prog X.w e X.mg X.base c fl f) (hm : Meth e.K (e.ga c) "__len__" f2) (q : Q_ X.prog X.w e X.mg X.base k f2 ps 1 m) (hr : Room (k + 3) X.A) (I : Inv X pins σ H s) {p dx l : Addr} {fs : List (Str × V)} {zs : List V} {Q : VK}
    (hp : H p = some (.ins (e.ga c) dx fs)) (hf : fs.lookup (e.nm fl) = some (.ref l)) (hz : H l = some (.lst zs))
    (h : ∀ a, H a = none → spD e 1 m [.ref p] (upd H a (.lst [])) (fun v H2 => ∃ n, v = .int n ∧ (0 ≤ n ∧ n.natAbs ≤ 1000000) ∧ (H2 a = some (.lst []) ∧ H2 l = some (.lst zs) ∧ Q (.ref a) (upd H2 a (.lst zs)))) (fun _ _ _ => False)) :
    wpAny (model X.prog X.w) X.A (call (.type "list") [.ref p]) (EP X pins σ Q) X.xe s := by
  have sb : Sub X (k + 1) X.A.in1.in1 := (Sub.in1 (Sub.in1 (⟨hr, rfl⟩ : Sub X (k + 3) X.A)))
  have hh : X.A.handled = none := I.ok.hd hc
  refine callType_codes (Q₁ := fun obj s₁ => obj = .ref s.heap.objs.size ∧ s₁ = { s with heap := s.heap.push { cls := .type "list", data := .seq #[] } }) PySem.F.called_list (PySem.F.typeCall_list_1 _) PySem.F.entry_list_init
    (code_list_new _ ⟨rfl, rfl⟩) fun obj s₁ h₁ => ?_
  obtain ⟨rfl, rfl⟩ := h₁
  have hS : (s.heap.push { cls := .type "list", data := .seq #[] }).get? s.heap.objs.size = some { cls := .type "list", data := .seq #[] } := Heap.get?_push_size _ rfl
  refine ⟨⟨_, hS, rfl⟩, PySem.F.args_list_init_2 _ _, ?_⟩
  generalize hD : s.heap.objs.size = D at hS ⊢
  have fr : H D = none := I.hok.fresh (Nat.le_of_eq hD)
  have h := h D fr
  have I1 : Inv X pins σ (upd H D (.lst [])) { s with heap := s.heap.push { cls := .type "list", data := .seq #[] } } := by
    have := I.lnew (its := []) (ys := []) (t' := s.toks) .nil (Nat.zero_le _)
    rw [hD] at this
    exact this
  show wpAny _ _ (do let old ← Builtin.List.listItems (.ref D); Builtin.List.listUpdate (.ref D) (fun _ => #[]); letGo old.toList.reverse; Builtin.List.listExtendWith (.ref D) (.ref p) .none) _ _ _
  refine wpAny_bind ?_
  unfold Builtin.List.listItems
  refine wpAny_bind (wpAny_seqItems hS rfl (wpAny_pure ?_))
  show wpAny _ _ (updateSeq D (fun _ => #[]) >>= fun _ => letGo (#[] : Array Value).toList.reverse >>= fun _ => Builtin.List.listExtendWith (.ref D) (.ref p) .none) _ _ _
  refine wpAny_bind (wpAny_updateSeq hS rfl ?_)
  have I2 := I1.lset (f := fun _ => #[]) (its := []) (its' := []) (ys := []) (t' := s.toks) upd_same hS rfl .nil (Nat.zero_le _)
  rw [upd_upd] at I2
  refine wpAny_bind (wpAny_letGo ?_)
  have npD : p ≠ D := ne_of_none hp fr
  have nlD : l ≠ D := ne_of_none hz fr
  generalize hH1 : upd H D (.lst []) = H1 at I2 h
  have hp1 : H1 p = some (.ins (e.ga c) dx fs) := by rw [← hH1, upd_ne npD]; exact hp
  have hz1 : H1 l = some (.lst zs) := by rw [← hH1, upd_ne nlD]; exact hz
  have hD1 : H1 D = some (.lst []) := by rw [← hH1, upd_same]
  generalize hs2 : ({ s with heap := (s.heap.push { cls := .type "list", data := .seq #[] }).update D (Obj.mapSeq fun _ => #[]) } : Shared) = s2 at I2 ⊢
  obtain ⟨ox, od, J⟩ := inst_of I2 hp1
  obtain ⟨m0, hF⟩ := I2.fr
  have hK := B.hK
  unfold Builtin.List.listExtendWith
  refine wpAny_bind (J.type.here ?_)
  have h1 : Builtin.List.listSameRef (.ref D) (.ref p) = false := by simp [Builtin.List.listSameRef, Ne.symm npD]
  have h2 : (Value.ref (e.ga c) == Value.type "list") = false := rfl
  have h3 : (Value.ref (e.ga c) == Value.type "tuple") = false := rfl
  simp only [h1, h2, h3, Bool.or_false, Bool.false_eq_true, if_false]
  refine wpAny_bind (PySem.W.owit_iter hF I2.ok.mod.kin J (hK ▸ F.m.at_) (hK ▸ F.m.fn) (wpAny_mono (it_callA B F (sb.mono (by omega)) I2 hp1 hf (SqL.of hz1)) (fun v' s3 hv => ?_) fun _ _ x => x))
  obtain ⟨x, H', I3, r2, it, rfl, n1, n2, eH⟩ := hv
  obtain rfl : v' = Value.ref it := r2
  subst eH
  have hi : (upd H1 it (ItO l it 0)) it = some (ItO l it 0) := upd_same
  have eo := itO_get I3 hi
  unfold PySem.W.OwitIt
  refine wpAny_specialOf (T := "list_iterator") ⟨_, eo, rfl⟩ slot_listiter_next.lookup ?_
  have hi' := hi
  unfold ItO at hi'
  have I4 := ItX.inv_drop I3 hi'
  have fp := ItX.inv_fp I3 hi n2
  rw [ItX.dropH_upd n1] at I4 fp
  obtain ⟨f0, f1, f2', f3, f4, f5⟩ := fp
  -- the iterator is pinned while __len__ runs
  have I5 : Inv X ((it, GNX.itObj l 0) :: pins) σ H1 s3 := I4.pins_of fun r hr' => by
    rcases List.mem_cons.mp hr' with rfl | hr'
    · exact ⟨eo, f0, f1, f2', fun v z => nomatch z⟩
    · exact I4.pin r (List.mem_append_right _ hr')
  have nitD : it ≠ D := fun z => by rw [z] at n1; rw [n1] at hD1; cases hD1
  refine wpAny_bind (wpAny_holding (hint_own B hm q sb I5 hp1 h fun b s4 H2 I6 hR => ?_))
  obtain ⟨r1, r3, r4⟩ := hR
  have pk := I6.pin (it, GNX.itObj l 0) (List.mem_append_right _ List.mem_cons_self)
  have I7 : Inv X pins σ H2 s4 := ClX.unpin I6
  have fp7 : FpOk X pins H2 it := ⟨pk.2.1, f1, f2', f3, f4, f5⟩
  have st : s4.heap.IsListIter it l 0 := ⟨_, pk.1, rfl, rfl⟩
  obtain ⟨zl, its, k', r5, hl5, e5⟩ := I7.lstM r1
  cases r5
  have hzl : zs.length ≤ sizeLine := (I7.lstM r3).1
  have fin : ∀ s', Inv X pins σ (upd H2 D (.lst zs)) s' → wants (fun r s₂ => r = .none ∧ EP X pins σ Q (.ref D) s₂) X.xe (.ok (.ret .none)) s' := fun s' I' => ⟨rfl, .ref D, _, I', rfl, r4⟩
  have hh2 : X.A.in1.in1.in1.handled = none := hh
  refine wpAny_ite_split (fun _ => ?_) (fun _ => wpAny_pure ⟨plainId_quiet PySem.F.plain_extend_loop _, ext_loop (A1 := X.A.in1) hh (Ne.symm nlD) nitD hzl zs.length 0 s4 H2 (by omega) (Nat.zero_le _) I7 fp7 st r3 (by rw [List.take_zero]; exact r1) fin⟩)
  refine wpAny_bind (wpAny_rule ?_)
  refine wpAny_bind ?_
  show wpAny _ _ (updateSeq D (·.push .none) >>= fun _ => updateSeq D (·.pop)) _ _ _
  refine wpAny_bind (wpAny_updateSeq e5 rfl ?_)
  have I8 := I7.lset (f := (·.push Value.none)) (its' := [Value.none]) (ys := [.non]) (t' := s4.toks) r1 e5 (by simp) (.cons rfl .nil) (by rw [List.length_singleton, sizeLine_eq]; decide)
  obtain ⟨z4, its4, k4, r6, hl4, e4⟩ := I8.lstM upd_same
  obtain ⟨u4, rfl, ru4⟩ := r6.one
  refine wpAny_updateSeq e4 rfl ?_ (by show 1 ≤ sizeLine; rw [sizeLine_eq]; decide) (by show 0 ≤ sizeLine + 1; exact Nat.zero_le _)
  have I9 := I8.lset (f := (·.pop)) (its := [u4]) (its' := []) (ys := []) (t' := s4.toks) upd_same e4 (by rfl) .nil (Nat.zero_le _)
  rw [upd_upd] at I9
  have hH : upd H2 D (.lst []) = H2 := by
    funext b
    by_cases hb : b = D
    · rw [hb, upd_same, r1]
    · rw [upd_ne hb]
  rw [hH] at I9
  refine wpAny_pure ⟨plainId_quiet PySem.F.plain_extend_loop _, ext_loop (A1 := X.A.in1) hh (Ne.symm nlD) nitD hzl zs.length 0 _ H2 (by omega) (Nat.zero_le _) I9 fp7 ?_ r3 (by rw [List.take_zero]; exact r1) fin⟩
  obtain ⟨o, eo', c', d'⟩ := st
  refine ⟨o, ?_, c', d'⟩
  exact (Heap.get?_update_other _ _ (Ne.symm nitD)).trans ((Heap.get?_update_other _ _ (Ne.symm nitD)).trans eo')
end
end PD

/-! PD32: list(o) as a combinator -/
namespace PD
open PySem PySem.Spec PySem.Calls PyProof.Rows L2 L2H
section
variable {e : Ev} {W : WX} {P : Pre} {σ : L2.St} {G G1 G2 : List Sl} {H H1 H2 : Hp} {Z : Zo} {X : Cx} {c fl : Nat} {f f2 : Addr} {m : MF} {fo : EF} {a : Expr} {pos : Pos}
def lstR (xs : List D) (r : R PV) : R PV := match r with
  | .ok (.val (.int n)) G => if 0 ≤ n ∧ n.natAbs ≤ 1000000 then .ok (.fr (.lst xs)) G else .bad
  | _ => .bad
def cLstO (c fl : Nat) (m : MF) (fo : EF) : EF := fun G => (fo G).bind fun p G1 => match peek p G1 with
  | some (.obj c' ns ds) => if c' = c then (match lkN ns ds fl with
    | some (.lst xs) => lstR xs (runC m [.b] [p] G1)
    | _ => .bad) else .bad
  | _ => .bad
theorem de_lstO {k : Nat} {ps : List Str} {x : Str} {p : Pos} (B : Bd e X W) (hc : X.calm = true) (F : ItF X.prog X.w e X.mg X.base c fl f) (hm : Meth e.K (e.ga c) "__len__" f2) (q : Q_ X.prog X.w e X.mg X.base k f2 ps 1 m) (hr : Room (k + 3) X.A)
    (hg : Gl X x) (hn : X.mg x = none) (hv : bootBuiltins x = some (.type "list")) (ha : PE X a (tD e W fo)) (hnn : x ≠ "__name__" := by decide) (hdb : (x == ("__debug__" : Str)) = false := by decide)
    (he : starEach [a] X.env = (false, eval a X.env) :: starEach [] X.env := by rfl) (hpl : (backTo pos (starEach [] X.env)).any (·.1) = false := by rfl) : PE X (.Call (.Name x p) [a] [] pos) (tD e W (cLstO c fl m fo)) := by
  refine ⟨fun pins s σ H Q I h => ?_⟩
  refine wpAny_Call_Name_kw (ld_blt I hg hn hv ?_ hnn hdb)
  have key : tD e W fo σ H fun v H1 => ∃ p dx fs l zs, v = .ref p ∧ H1 p = some (.ins (e.ga c) dx fs) ∧ fs.lookup (e.nm fl) = some (.ref l) ∧ H1 l = some (.lst zs) ∧
      (∀ b, H1 b = none → spD e 1 m [.ref p] (upd H1 b (.lst [])) (fun v H2 => ∃ n, v = .int n ∧ (0 ≤ n ∧ n.natAbs ≤ 1000000) ∧ (H2 b = some (.lst []) ∧ H2 l = some (.lst zs) ∧ Q (.ref b) (upd H2 b (.lst zs)))) (fun _ _ _ => False)) := tD_then h fun P G Z0 H0 H1 pv v r q => by
    obtain ⟨S, st, t⟩ := r.tmp
    split at q
    · rename_i c' ns ds hp
      split at q
      · rename_i hc
        subst hc
        split at q
        · rename_i xs hx
          obtain ⟨p, dx, fs, rfl, k1, k2, k3⟩ := (peek_ok S t hp).obj
          obtain ⟨v, k4, l, zs, rfl, k6, k7⟩ := lkN_ok k2 k3 hx
          refine ⟨p, dx, fs, l, zs, rfl, k1, k4, k6.2, fun b hb => ?_⟩
          have h0 : P.H0 b = none := by
            cases q0 : P.H0 b with
            | none => rfl
            | some o => exact absurd hb (S.live b (by rw [q0]; simp))
          have hz0 : ¬ P.Z0 b := fun z => S.z0 b z h0
          have hw : ¬ P.Wr b := fun z => hz0 (S.wz b z)
          have SL := S.lcIn (acc := []) hb
          have stL : Step (Zn P G σ) H1 (Zn (lcP P b []) G σ) (upd H1 b (.lst [])) := step_grow (upd_keeps hb) fun a ha z => by
            rcases zn_lc.mp z with z | z
            · exact z
            · subst z; exact absurd hb ha
          have tL : Tmps e (lcP P b []) σ G (upd H1 b (.lst [])) [pv] [.ref p] := ⟨_, _, rfl, (by
            cases pv with
            | val d => exact Rp.step stL _ _ t
            | fr d => exact Rp.step stL _ _ t
            | sl i => exact t), rfl⟩
          refine runC_ok (W := W0) (m := m) (mds := [.b]) (ps := [pv]) SL tL (Step.refl _ _) rfl ?_
          cases hr2 : runC m [.b] [pv] G with
          | bad => rw [hr2] at q; exact q.elim
          | ex c ns ds G2 => rw [hr2] at q; exact q.elim
          | ok pv2 G2 =>
            rw [hr2] at q
            unfold lstR at q
            split at q
            · rename_i e1; cases e1
              split at q
              · rename_i hn
                intro v2 H2 r2
                obtain ⟨S2, st2, rfl⟩ := r2
                have st3 := stL.trans st2
                have hl := st3.at_ k6
                have k8 := Rps.step st3 _ _ k7
                refine ⟨_, rfl, hn, lcP_acc S2 hw, hl.2, ?_⟩
                obtain ⟨S3, st4⟩ := S2.lcApp (acc' := zs) hw
                obtain ⟨S4, z4⟩ := S3.lcOut h0 hz0 hw S.z0 S.wz (Rps.step st4 _ _ k8)
                exact q _ _ ⟨b, rfl, S4, st.trans ((st3.trans st4).zone fun a z => (z4 a).mp z)⟩
              · exact q.elim
            · exact q.elim
        · exact q.elim
      · exact q.elim
    · exact q.elim
  have hA := (pa_cons ha pa_nil he).run pos pins s σ H (fun vs H1 => ∃ v, vs = [v] ∧ ∃ p dx fs l zs, v = .ref p ∧ H1 p = some (.ins (e.ga c) dx fs) ∧ fs.lookup (e.nm fl) = some (.ref l) ∧ H1 l = some (.lst zs) ∧
      (∀ b, H1 b = none → spD e 1 m [.ref p] (upd H1 b (.lst [])) (fun v H2 => ∃ n, v = .int n ∧ (0 ≤ n ∧ n.natAbs ≤ 1000000) ∧ (H2 b = some (.lst []) ∧ H2 l = some (.lst zs) ∧ Q (.ref b) (upd H2 b (.lst zs)))) (fun _ _ _ => False))) I (by
    obtain ⟨P, G, S, h2⟩ := key
    exact ⟨P, G, S, h2.mono (fun pv G1 k v H1 r => ⟨v, rfl, k v H1 r⟩) fun _ _ s => s⟩)
  refine PyProof.Rows.callWith_type1 (thn hA fun us s1 ⟨vs, H1, I1, r1, x, ev, p, dx, fs, l, zs, e2, k1, k2, k3, q2⟩ => ?_) he hpl
  subst ev e2
  cases r1 with
  | cons r1 rs =>
    cases rs
    cases r1
    exact list_own B hc F hm q hr I1 k1 k2 k3 q2
end
end PD

/-! PD33: what these combinators compute, for simp -/
namespace PD
open PySem PySem.Spec L2 L2H
section
variable {fa fb fc fo : EF} {fs : AF} {f g : SF} {t u : TF} {G : List Sl} {i j c fl : Nat} {d : D} {k : List D → Option PV} {x y : Str} {m : MF} {mds : List Md}
@[simp] theorem cLstO_ap : cLstO c fl m fo G = (fo G).bind fun p G1 => match peek p G1 with
  | some (.obj c' ns ds) => if c' = c then (match lkN ns ds fl with
    | some (.lst xs) => lstR xs (runC m [.b] [p] G1)
    | _ => .bad) else .bad
  | _ => .bad := rfl
@[simp] theorem lstR_ok {xs : List D} {n : Int} : lstR xs (.ok (.val (.int n)) G) = if 0 ≤ n ∧ n.natAbs ≤ 1000000 then .ok (.fr (.lst xs)) G else .bad := rfl
@[simp] theorem sIterO_ap : sIterO c fl fo G = (fo G).bind fun p G1 => match peek p G1 with
  | some (.obj c' ns ds) => if c' = c then (match lkN ns ds fl with
    | some (.lst xs) => .ok xs G1
    | _ => .bad) else .bad
  | _ => .bad := rfl
@[simp] theorem cOIn_ap {neg : Bool} : cOIn neg c m mds fa fb G = (fa G).bind fun a G1 => (fb G1).bind fun b G2 => if obC c b G2 = true then inR neg (runC m mds [b, a] G2) else .bad := rfl
@[simp] theorem inR_ok {neg b : Bool} : inR neg (.ok (.val (.bl b)) G) = .ok (.val (.bl (neg != b))) G := rfl
@[simp] theorem cRevL_ap : cRevL fo G = (fo G).bind fun p G1 => match peek p G1 with
  | some (.lst xs) => .ok (.fr (.lst xs.reverse)) G1
  | some (.fz xs) => .ok (.fr (.lst xs.reverse)) G1
  | _ => .bad := rfl
@[simp] theorem cMut_ap {kf : List D → List D → Option (List D × D)} : cMut i kf fs G = match wrD i G with
  | some (.lst _, _) => (fs G).bind fun ps G1 => (match escs ps G1 with
    | some (ds, G2) => (match wrD i G2 with
      | some (.lst xs, s) => (match kf xs ds with
        | some (ys, r) => .ok (.val r) (G2.set i (putSl (.lst ys) s))
        | none => .bad)
      | _ => .bad)
    | none => .bad)
  | _ => .bad := rfl
@[simp] theorem kClear_ap {xs : List D} : kClear xs [] = some ([], .non) := rfl
@[simp] theorem kReverse_ap {xs : List D} : kReverse xs [] = some (xs.reverse, .non) := rfl
@[simp] theorem kInsert_ap {xs : List D} {n : Int} : kInsert xs [.int n, d] = if 0 ≤ n ∧ n.natAbs < 1000000 ∧ xs.length < 1000000 then some (xs.take n.toNat ++ [d] ++ xs.drop n.toNat, .non) else none := rfl
@[simp] theorem cSU_ap {kd : List D → Bool} {out : List D → List D} {src : F (List D)} {vs : List Nat} {g : GF} : cSU kd out src vs g t fa G = (src G).bind fun ds G1 => if okW G1 vs = true then (scGo kd vs g t fa ds [] G1).bind fun xs G2 => .ok (.fr (.lst (out xs))) (resG G1 (wipeG G2 vs) vs) else .bad := rfl
end
/-- a set comprehension by its items -/
theorem scGo_ix {kd : List D → Bool} {vs : List Nat} {g : GF} {t : TF} {f : EF} {ds : List D} {G : List Sl} (I : Nat → List D → List Sl → Prop) (h0 : I 0 [] G)
    (step : ∀ (i : Nat) (d : D) (xs : List D) (G : List Sl), ds[i]? = some d → I i xs G → ∃ G1, g d (wipeG G vs) = some G1 ∧
      ((∃ G2 pv G3 x G4, t G1 = .ok true G2 ∧ f G2 = .ok pv G3 ∧ esc pv G3 = some (x, G4) ∧ kd (xs ++ [x]) = true ∧ I (i + 1) (xs ++ [x]) G4) ∨ ∃ G2, t G1 = .ok false G2 ∧ I (i + 1) xs G2)) :
    ∃ xs G', scGo kd vs g t f ds [] G = .ok xs G' ∧ I ds.length xs G' := by
  have main : ∀ (n i : Nat) (xs : List D) (G : List Sl), n = ds.length - i → i ≤ ds.length → I i xs G → ∃ xs' G', scGo kd vs g t f (ds.drop i) xs G = .ok xs' G' ∧ I ds.length xs' G' := by
    intro n
    induction n with
    | zero =>
      intro i xs G hn hi h
      have : i = ds.length := by omega
      subst this
      exact ⟨xs, G, by rw [List.drop_length]; rfl, h⟩
    | succ n ih =>
      intro i xs G hn hi h
      have hlt : i < ds.length := by omega
      rw [List.drop_eq_getElem_cons hlt]
      obtain ⟨G1, h1, h2⟩ := step i ds[i] xs G (List.getElem?_eq_getElem hlt) h
      rcases h2 with ⟨G2, pv, G3, x, G4, k1, k2, k3, hk, k4⟩ | ⟨G2, k1, k2⟩
      · obtain ⟨xs', G', e1, e2⟩ := ih (i + 1) (xs ++ [x]) G4 (by omega) hlt k4
        refine ⟨xs', G', ?_, e2⟩
        simp only [scGo, h1, k1, noEx_ok, R.bind_ok, if_true, k2, k3, hk]
        exact e1
      · obtain ⟨xs', G', e1, e2⟩ := ih (i + 1) xs G2 (by omega) hlt k2
        refine ⟨xs', G', ?_, e2⟩
        simp only [scGo, h1, k1, noEx_ok, R.bind_ok]
        exact e1
  obtain ⟨xs, G', e1, e2⟩ := main ds.length 0 [] G (by simp) (Nat.zero_le _) h0
  exact ⟨xs, G', by simpa using e1, e2⟩
/-! ### pairs as data -/
@[simp] theorem pr2_dP {p : Int × Int} : pr2 (dP p) = some p := rfl
@[simp] theorem prs_dP : ∀ {ps : List (Int × Int)}, prs (ps.map dP) = ps
  | [] => rfl
  | p :: ps => by
    show (List.filterMap pr2 (dP p :: ps.map dP)) = _
    rw [List.filterMap_cons, pr2_dP]
    show p :: prs (ps.map dP) = _
    rw [prs_dP]
theorem outP_dP {ps : List (Int × Int)} : outP (ps.map dP) = (srtP ps).map dP := by
  unfold outP; rw [prs_dP]
def OkPr (p : Int × Int) : Prop := (0 ≤ p.1 ∧ p.1 < 64) ∧ (0 ≤ p.2 ∧ p.2 < 64)
theorem srtP_len {ps : List (Int × Int)} : (srtP ps).length ≤ ps.length :=
  len_sub (nodup_srt ltP_o (srt_srtU ltP_o _)) fun z hz => (mem_srtU ltP_o).mp hz
theorem kdP_dP {ps : List (Int × Int)} (h : ∀ p ∈ ps, OkPr p) (hl : (srtP ps).length ≤ 62) : kdP (ps.map dP) = true := by
  unfold kdP
  rw [prs_dP]
  simp only [Bool.and_eq_true, List.all_eq_true, decide_eq_true_eq]
  refine ⟨fun x hx => ?_, hl⟩
  obtain ⟨p, hp, rfl⟩ := List.mem_map.mp hx
  obtain ⟨h1, h2⟩ := h p hp
  simp only [okP, dP, Bool.and_eq_true, decide_eq_true_eq]
  exact ⟨h1, h2⟩
@[simp] theorem toPy_dP {p : Int × Int} : toPy (dP p) = .tuple [.int p.1, .int p.2] := by simp [dP, toPy, toPys]
@[simp] theorem plain_dP {p : Int × Int} : (toPy (dP p)).plain = true := by simp [PyData.plain, PyData.plainAll]
@[simp] theorem depth_dP {p : Int × Int} : (toPy (dP p)).depth = 1 := by simp [PyData.depth, PyData.depthAll]
theorem plainAll_dP : ∀ {ps : List (Int × Int)}, PyData.plainAll (toPys (ps.map dP)) = true
  | [] => rfl
  | p :: ps => by
    show PyData.plainAll (toPy (dP p) :: toPys (ps.map dP)) = true
    simp only [PyData.plainAll, plain_dP, plainAll_dP, Bool.and_self]
theorem depthAll_dP : ∀ {ps : List (Int × Int)}, PyData.depthAll (toPys (ps.map dP)) ≤ 2
  | [] => by simp [toPys, PyData.depthAll]
  | p :: ps => by
    show PyData.depthAll (toPy (dP p) :: toPys (ps.map dP)) ≤ 2
    simp only [PyData.depthAll, depth_dP]
    have := depthAll_dP (ps := ps)
    omega
theorem eqv_dP {p q : Int × Int} : PyData.eqv (toPy (dP p)) (toPy (dP q)) = decide (p = q) := by
  obtain ⟨a, b⟩ := p
  obtain ⟨c, d⟩ := q
  simp [PyData.eqv, PyData.eqvAll]
  rfl
end PD

/-! PD34: lists of pairs, for the plain laws -/
namespace PD
open PySem PySem.Spec L2 L2H
section
variable {G : List Sl} {p q : Int × Int} {ps qs : List (Int × Int)} {ds : List D}
theorem tup_dP {a b : Int} : D.tup [.int a, .int b] = dP (a, b) := rfl
@[simp] theorem gT_dP {gs : List D → List Sl → Option (List Sl)} : gT 2 gs (dP p) G = gs [.int p.1, .int p.2] G := rfl
@[simp] theorem kIx_dP0 : kIx (dP p) (.int 0) = some (.val (.int p.1)) := rfl
@[simp] theorem kIx_dP1 : kIx (dP p) (.int 1) = some (.val (.int p.2)) := rfl
@[simp] theorem kLt_dP : kLt (dP p) (dP q) = some (.val (.bl (ltP p q))) := by
  show some (PV.val (.bl (HT.lexLt [p.1, p.2] [q.1, q.2]))) = _
  congr 3
  simp [HT.lexLt, ltP]
  by_cases h : p.1 = q.1
  · simp [h]
    omega
  · simp [h]
theorem any_dP : ∀ {ps : List (Int × Int)}, ((toPys (ps.map dP)).any fun y => PyData.eqv y (toPy (dP p))) = decide (p ∈ ps)
  | [] => rfl
  | q :: ps => by
    show (PyData.eqv (toPy (dP q)) (toPy (dP p)) || (toPys (ps.map dP)).any fun y => PyData.eqv y (toPy (dP p))) = _
    rw [eqv_dP, any_dP]
    by_cases h : p = q
    · subst h; simp
    · have : ¬ q = p := fun z => h z.symm
      simp [h, this]
@[simp] theorem kIn_dP {neg : Bool} : kIn neg (dP p) (.lst (ps.map dP)) = some (.val (.bl (neg != decide (p ∈ ps)))) := by
  have h : kIn neg (dP p) (.lst (ps.map dP)) = if (toPy (dP p)).plain = true ∧ PyData.plainAll (toPys (ps.map dP)) = true ∧ min (PyData.depthAll (toPys (ps.map dP))) (toPy (dP p)).depth ≤ 60 then some (.val (.bl (neg != (toPys (ps.map dP)).any fun y => PyData.eqv y (toPy (dP p))))) else none := rfl
  rw [h, if_pos ⟨plain_dP, plainAll_dP, by rw [depth_dP]; omega⟩, any_dP]
theorem eqvAll_dP : ∀ {ps qs : List (Int × Int)}, PyData.eqvAll (toPys (ps.map dP)) (toPys (qs.map dP)) = decide (ps = qs)
  | [], [] => by simp [toPys, PyData.eqvAll]
  | [], _ :: _ => by simp [toPys, PyData.eqvAll]
  | _ :: _, [] => by simp [toPys, PyData.eqvAll]
  | p :: ps, q :: qs => by
    show PyData.eqvAll (toPy (dP p) :: toPys (ps.map dP)) (toPy (dP q) :: toPys (qs.map dP)) = _
    rw [PyData.eqvAll, eqv_dP, eqvAll_dP]
    by_cases h : p = q
    · subst h; simp
    · simp [h]
@[simp] theorem kEq_dPs : kEq (.lst (ps.map dP)) (.lst (qs.map dP)) = some (.val (.bl (decide (ps = qs)))) := by
  have h : kEq (.lst (ps.map dP)) (.lst (qs.map dP)) = if (toPy (.lst (ps.map dP))).plain = true ∧ (toPy (.lst (qs.map dP))).plain = true ∧ min (toPy (.lst (ps.map dP))).depth (toPy (.lst (qs.map dP))).depth ≤ 60 then some (.val (.bl (PyData.eqv (toPy (.lst (ps.map dP))) (toPy (.lst (qs.map dP)))))) else none := rfl
  have p1 : ∀ {ps : List (Int × Int)}, (toPy (.lst (ps.map dP))).plain = true := fun {ps} => by
    show PyData.plain (.list (toPys (ps.map dP))) = true
    rw [PyData.plain]; exact plainAll_dP
  have p2 : ∀ {ps : List (Int × Int)}, (toPy (.lst (ps.map dP))).depth ≤ 3 := fun {ps} => by
    show PyData.depth (.list (toPys (ps.map dP))) ≤ 3
    rw [PyData.depth]
    have := depthAll_dP (ps := ps)
    omega
  have a1 := p2 (ps := ps)
  rw [h, if_pos ⟨p1, p1, by omega⟩]
  show some (PV.val (.bl (PyData.eqv (.list (toPys (ps.map dP))) (.list (toPys (qs.map dP)))))) = _
  rw [PyData.eqv, eqvAll_dP]
theorem toPy_nofun : True := trivial
end
/-! ### slices -/
def cutL {α : Type} (xs : List α) (lo hi : Option Int) : List α := (xs.drop (HT.sIx xs.length 0 lo)).take (HT.sIx xs.length xs.length hi - HT.sIx xs.length 0 lo)
theorem cutD_map {α : Type} {f : α → D} {ps : List α} {lo hi : Option Int} : cutD (ps.map f) lo hi = (cutL ps lo hi).map f := by
  unfold cutD cutL
  rw [List.length_map, List.map_take, List.map_drop]
theorem cutL_mem {α : Type} {ps : List α} {lo hi : Option Int} {x : α} (h : x ∈ cutL ps lo hi) : x ∈ ps := List.mem_of_mem_drop (List.mem_of_mem_take h)
theorem cutL_len {α : Type} {ps : List α} {lo hi : Option Int} : (cutL ps lo hi).length ≤ ps.length := by
  unfold cutL
  rw [List.length_take, List.length_drop]
  omega
theorem cutL_from1 {α : Type} {ps : List α} : cutL ps (some 1) none = ps.drop 1 := by
  have h : HT.sIx ps.length 0 (some 1) = min 1 ps.length := rfl
  have h2 : HT.sIx ps.length ps.length none = ps.length := rfl
  unfold cutL
  rw [h, h2]
  cases ps with
  | nil => rfl
  | cons a r => simp
/-! ### a sorted list grows -/
def cntU {α : Type} (lt : α → α → Bool) (x : α) (l : List α) : Nat := l.countP fun y => lt y x
section
variable {α : Type} {lt : α → α → Bool}
theorem cnt0 (h : StO lt) {x : α} : ∀ {l : List α}, (∀ y ∈ l, lt x y = true) → cntU lt x l = 0 := fun {l} hl => by
  unfold cntU
  rw [List.countP_eq_zero]
  intro y hy z
  have := h.tr _ _ _ (hl y hy) z
  rw [h.irr] at this
  cases this
theorem put_insU (h : StO lt) {x : α} : ∀ {l : List α}, l.Pairwise (fun a b => lt a b = true) → x ∉ l → l.take (cntU lt x l) ++ [x] ++ l.drop (cntU lt x l) = insU lt x l
  | [], _, _ => rfl
  | y :: ys, p, nx => by
    have p' := List.pairwise_cons.mp p
    simp only [List.mem_cons, not_or] at nx
    unfold insU
    by_cases h1 : lt x y = true
    · have : cntU lt x (y :: ys) = 0 := cnt0 h fun z hz => by
        rcases List.mem_cons.mp hz with rfl | hz
        · exact h1
        · exact h.tr _ _ _ h1 (p'.1 z hz)
      rw [this, if_pos h1]
      rfl
    · by_cases h2 : lt y x = true
      · rw [if_neg h1, if_pos h2, ← put_insU h p'.2 nx.2]
        have : cntU lt x (y :: ys) = cntU lt x ys + 1 := by
          unfold cntU
          rw [List.countP_cons, if_pos h2]
        rw [this]
        rfl
      · exact absurd (h.tri x y (by simpa using h1) (by simpa using h2)) nx.1
theorem put_srtU (h : StO lt) {x : α} {l : List α} (nx : x ∉ l) : (srtU lt l).take (cntU lt x (srtU lt l)) ++ [x] ++ (srtU lt l).drop (cntU lt x (srtU lt l)) = srtU lt (l ++ [x]) := by
  rw [put_insU h (srt_srtU h l) (fun z => nx ((mem_srtU h).mp z))]
  refine uniq_srt h (srt_insU h (srt_srtU h l)) (srt_srtU h _) fun z => ?_
  rw [mem_insU h, mem_srtU h, mem_srtU h, List.mem_append, List.mem_singleton]
  exact Or.comm
theorem srtU_same (h : StO lt) {x : α} {l : List α} (hx : x ∈ l) : srtU lt (l ++ [x]) = srtU lt l := by
  refine uniq_srt h (srt_srtU h _) (srt_srtU h _) fun z => ?_
  rw [mem_srtU h, mem_srtU h, List.mem_append, List.mem_singleton]
  constructor
  · rintro (z | rfl)
    · exact z
    · exact hx
  · exact .inl
theorem srtU_eq (h : StO lt) {l m : List α} (e : ∀ z, z ∈ l ↔ z ∈ m) : srtU lt l = srtU lt m :=
  uniq_srt h (srt_srtU h _) (srt_srtU h _) fun z => by rw [mem_srtU h, mem_srtU h]; exact e z
theorem srtU_id (h : StO lt) {l : List α} (p : l.Pairwise (fun a b => lt a b = true)) : srtU lt l = l :=
  uniq_srt h (srt_srtU h _) p fun z => mem_srtU h
end
end PD

/-! PD35: for x in l, l a list of one's own that stays one's own -/
namespace PD
open PySem PySem.Spec L2 L2H
/-- the list at a is lent, for slot i, to what runs in the loop -/
def lendP (P : Pre) (n i : Nat) (a : Addr) : Pre := ⟨upd P.H0 a (.lst []), fun b => P.Z0 b ∨ b = a, fun b => P.Wr b ∨ b = a, (List.range n).map fun j => if j = i then .ref a else (P.pv[j]?).getD .non, P.Xz⟩
section
variable {e : Ev} {W : WX} {P : Pre} {σ σ2 : L2.St} {G G1 G2 : List Sl} {H H1 H2 : Hp} {Z Z' : Zo} {X : Cx} {i n : Nat} {a : Addr} {d : D}
theorem lend_pv {j : Nat} (hj : j < n) : (lendP P n i a).pv[j]? = some (if j = i then .ref a else (P.pv[j]?).getD .non) := by
  show ((List.range n).map _)[j]? = _
  rw [List.getElem?_map, List.getElem?_range hj]
  rfl
theorem lend_pv' {j : Nat} {v : V} (h : (lendP P n i a).pv[j]? = some v) : v = if j = i then .ref a else (P.pv[j]?).getD .non := by
  by_cases hj : j < n
  · rw [lend_pv hj] at h
    exact (Option.some.inj h).symm
  · have : ((List.range n).map fun j => if j = i then V.ref a else (P.pv[j]?).getD .non)[j]? = none := by
      rw [List.getElem?_eq_none]
      simpa using hj
    rw [show (lendP P n i a).pv = (List.range n).map fun j => if j = i then V.ref a else (P.pv[j]?).getD .non from rfl, this] at h
    cases h
theorem lend_zn (hi : G[i]? = some (.own d)) (ha : σ[i]? = some (some (.ref a))) : Zn (lendP P n i a) (G.set i (.lnd d)) σ = Zn P G σ := by
  funext b
  refine propext ⟨?_, ?_⟩
  · rintro ((z | rfl) | ⟨j, d', h1, h2⟩)
    · exact .inl z
    · exact .inr ⟨i, d, hi, ha⟩
    · rcases set_get h1 with ⟨_, h, _⟩ | ⟨hj, h1⟩
      · cases h
      · exact .inr ⟨j, d', h1, h2⟩
  · rintro (z | ⟨j, d', h1, h2⟩)
    · exact .inl (.inl z)
    · by_cases hj : i = j
      · subst hj
        rw [ha] at h2
        cases h2
        exact .inl (.inr rfl)
      · exact .inr ⟨j, d', by rw [List.getElem?_set_ne hj]; exact h1, h2⟩
theorem unlend_zn (hi : G[i]? = some (.lnd d)) (ha : σ[i]? = some (some (.ref a))) : Zn (lendP P n i a) G σ = Zn P (G.set i (.own d)) σ := by
  have hlt : i < G.length := (List.getElem?_eq_some_iff.mp hi).1
  funext b
  refine propext ⟨?_, ?_⟩
  · rintro ((z | rfl) | ⟨j, d', h1, h2⟩)
    · exact .inl z
    · exact .inr ⟨i, d, by rw [List.getElem?_set_self hlt], ha⟩
    · have hj : i ≠ j := fun z => by subst z; rw [hi] at h1; cases h1
      exact .inr ⟨j, d', by rw [List.getElem?_set_ne hj]; exact h1, h2⟩
  · rintro (z | ⟨j, d', h1, h2⟩)
    · exact .inl (.inl z)
    · rcases set_get h1 with ⟨hj, h, _⟩ | ⟨hj, h1⟩
      · subst hj
        rw [ha] at h2
        cases h2
        exact .inl (.inr rfl)
      · exact .inr ⟨j, d', h1, h2⟩
/-- what is known of the one that is lent -/
structure LendF (P : Pre) (a : Addr) : Prop where
  h0 : P.H0 a = none
  z0 : ¬ P.Z0 a
  zs : ∀ b, P.Z0 b → P.H0 b ≠ none
  wz : ∀ b, P.Wr b → P.Z0 b
theorem LendF.up (F : LendF P a) {b : Addr} (hb : b ≠ a) : (lendP P n i a).H0 b = P.H0 b := by
  show upd P.H0 a (.lst []) b = _
  rw [upd_ne hb]
theorem Sat.lend (S : Sat e P G σ H) (hi : G[i]? = some (.own d)) (ha : σ[i]? = some (some (.ref a))) : LendF P a ∧ Sat e (lendP P σ.length i a) (G.set i (.lnd d)) σ H := by
  obtain ⟨a', e1, h0, hz, hA⟩ := S.slot i _ hi
  rw [ha] at e1
  cases e1
  have F : LendF P a := ⟨h0, hz, S.z0, S.wz⟩
  have hlt : i < G.length := (List.getElem?_eq_some_iff.mp hi).1
  refine ⟨F, ⟨by simpa using S.len, fun j s h => ?_, fun j k d1 d2 b h1 h2 h3 h4 => ?_, fun j k d1 d2 b h1 h2 h3 h4 => ?_, fun b o hb w => ?_, fun b hb => ?_, fun b z => ?_, fun b w => w.imp (S.wz b) id⟩⟩
  · rw [lend_zn hi ha]
    rcases set_get h with ⟨rfl, rfl, _⟩ | ⟨hj, h⟩
    · refine ⟨a, ha, ?_, .inr rfl, .inr rfl, hA⟩
      rw [lend_pv (by rw [← S.len]; exact hlt), if_pos rfl]
    · have q := S.slot j s h
      cases s with
      | no => trivial
      | imm d => exact q
      | own d' =>
        obtain ⟨b, k1, k2, k3, k4⟩ := q
        have hb : b ≠ a := fun z => by subst z; exact hj (S.dist i j _ _ b hi h ha k1)
        exact ⟨b, k1, by rw [F.up hb]; exact k2, fun z => z.elim k3 hb, k4⟩
      | lnd d' =>
        obtain ⟨b, k1, k2, k3, k4, k5⟩ := q
        refine ⟨b, k1, ?_, .inl k3, .inl k4, k5⟩
        have hjl : j < σ.length := (List.getElem?_eq_some_iff.mp k1).1
        rw [lend_pv hjl, if_neg (Ne.symm hj), k2]
        rfl
      | bor d' =>
        obtain ⟨b, k1, k2, k3, k4⟩ := q
        have hb : b ≠ a := fun z => by subst z; exact hz k2
        exact ⟨b, k1, .inl k2, fun z => z.elim (fun z => z.elim (fun z => k3 (.inl z)) hb) fun z => k3 (.inr z), k4⟩
      | exn c ns ds => exact q
  · rcases set_get h1 with ⟨_, h, _⟩ | ⟨_, h1⟩
    · cases h
    · rcases set_get h2 with ⟨_, h, _⟩ | ⟨_, h2⟩
      · cases h
      · exact S.dist j k d1 d2 b h1 h2 h3 h4
  · have za : ∀ {j : Nat} {d1 : D}, G[j]? = some (.lnd d1) → σ[j]? = some (some (.ref a)) → False := fun {j d1} k1 k2 => by
      obtain ⟨c, c1, _, _, c4, _⟩ := S.slot j _ k1
      rw [k2] at c1; cases c1
      exact hz c4
    rcases set_get h1 with ⟨e1, h, _⟩ | ⟨hj, h1⟩
    · rcases set_get h2 with ⟨e2, _, _⟩ | ⟨hk, h2⟩
      · exact e1.symm.trans e2
      · subst e1
        rw [ha] at h3
        cases h3
        exact (za h2 h4).elim
    · rcases set_get h2 with ⟨e2, _, _⟩ | ⟨hk, h2⟩
      · subst e2
        rw [ha] at h4
        cases h4
        exact (za h1 h3).elim
      · exact S.par j k d1 d2 b h1 h2 h3 h4
  · have hb' : b ≠ a := fun z => w (.inr z)
    rw [F.up hb'] at hb
    exact S.keep b o hb fun z => w (.inl z)
  · by_cases hb' : b = a
    · subst hb'; exact hA.live
    · rw [F.up hb'] at hb
      exact S.live b hb
  · by_cases hb' : b = a
    · subst hb'
      show upd P.H0 b (.lst []) b ≠ none
      rw [upd_same]; simp
    · rw [F.up hb']
      exact S.z0 b (z.elim id fun z => absurd z hb')
theorem lend_at (S : Sat e (lendP P n i a) G σ H) (hi : G[i]? = some (.lnd d)) : σ[i]? = some (some (.ref a)) ∧ At e (Zn (lendP P n i a) G σ) H d a := by
  obtain ⟨b, k1, k2, _, _, k5⟩ := S.slot i _ hi
  have := lend_pv' k2
  rw [if_pos rfl] at this
  cases this
  exact ⟨k1, k5⟩
theorem Sat.unlend (F : LendF P a) (S : Sat e (lendP P n i a) G σ H) (hi : G[i]? = some (.lnd d)) : Sat e P (G.set i (.own d)) σ H := by
  obtain ⟨ha, hA⟩ := lend_at S hi
  have zn := unlend_zn (P := P) (n := n) hi ha
  refine ⟨by simpa using S.len, fun j s h => ?_, fun j k d1 d2 b h1 h2 h3 h4 => ?_, fun j k d1 d2 b h1 h2 h3 h4 => ?_, fun b o hb w => ?_, fun b hb => ?_, F.zs, F.wz⟩
  · rw [← zn]
    rcases set_get h with ⟨rfl, rfl, _⟩ | ⟨hj, h⟩
    · exact ⟨a, ha, F.h0, F.z0, hA⟩
    · have q := S.slot j s h
      cases s with
      | no => trivial
      | imm d => exact q
      | own d' =>
        obtain ⟨b, k1, k2, k3, k4⟩ := q
        have hb : b ≠ a := fun z => k3 (.inr z)
        exact ⟨b, k1, by rw [F.up hb] at k2; exact k2, fun z => k3 (.inl z), k4⟩
      | lnd d' =>
        obtain ⟨b, k1, k2, k3, k4, k5⟩ := q
        have hb : b ≠ a := fun z => by subst z; exact hj (S.par i j _ _ b hi h ha k1)
        have k2' := lend_pv' k2
        rw [if_neg (Ne.symm hj)] at k2'
        refine ⟨b, k1, ?_, k3.elim id fun z => absurd z hb, k4.elim id fun z => absurd z hb, k5⟩
        cases q0 : P.pv[j]? with
        | none => rw [q0] at k2'; cases k2'
        | some u => rw [q0] at k2'; rw [k2'] <;> rfl
      | bor d' =>
        obtain ⟨b, k1, k2, k3, k4⟩ := q
        have hb : b ≠ a := fun z => k3 (.inl (.inr z))
        exact ⟨b, k1, k2.elim id fun z => absurd z hb, fun z => k3 (z.imp .inl id), k4⟩
      | exn c ns ds => exact q
  · have oa : ∀ {j : Nat} {d1 : D}, G[j]? = some (.own d1) → σ[j]? = some (some (.ref a)) → False := fun {j d1} k1 k2 => by
      obtain ⟨c, c1, _, c3, _⟩ := S.slot j _ k1
      rw [k2] at c1; cases c1
      exact c3 (.inr rfl)
    rcases set_get h1 with ⟨e1, h, _⟩ | ⟨hj, h1⟩
    · rcases set_get h2 with ⟨e2, _, _⟩ | ⟨hk, h2⟩
      · exact e1.symm.trans e2
      · subst e1
        rw [ha] at h3
        cases h3
        exact (oa h2 h4).elim
    · rcases set_get h2 with ⟨e2, _, _⟩ | ⟨hk, h2⟩
      · subst e2
        rw [ha] at h4
        cases h4
        exact (oa h1 h3).elim
      · exact S.dist j k d1 d2 b h1 h2 h3 h4
  · rcases set_get h1 with ⟨_, h, _⟩ | ⟨_, h1⟩
    · cases h
    · rcases set_get h2 with ⟨_, h, _⟩ | ⟨_, h2⟩
      · cases h
      · exact S.par j k d1 d2 b h1 h2 h3 h4
  · have hb' : b ≠ a := fun z => by subst z; rw [F.h0] at hb; cases hb
    exact S.keep b o (by rw [F.up hb']; exact hb) fun z => z.elim w hb'
  · have hb' : b ≠ a := fun z => by subst z; exact hb F.h0
    exact S.live b (by rw [F.up hb']; exact hb)
def unl (i : Nat) (r : R Ctl) : R Ctl := match r with
  | .ok c G => (match G[i]? with
    | some (.lnd d) => .ok c (G.set i (.own d))
    | _ => .bad)
  | .ex c ns ds G => (match G[i]? with
    | some (.lnd d) => .ex c ns ds (G.set i (.own d))
    | _ => .bad)
  | .bad => .bad
theorem PostS.unl {D' : Ends} {r : R Ctl} (F : LendF P a) (h : PostS e W P Z H D' (PD.unl i r)) : PostS e W (lendP P n i a) Z H D' r := by
  cases r with
  | bad => exact h
  | ex c ns ds G1 =>
    unfold PD.unl at h
    dsimp only at h
    split at h
    · rename_i d q
      intro cls dx σ1 H1 S st r
      obtain ⟨ha, _⟩ := lend_at S q
      rw [unlend_zn (P := P) q ha] at st r
      exact h cls dx σ1 H1 (S.unlend F q) st r
    · exact h.elim
  | ok c G1 =>
    unfold PD.unl at h
    dsimp only at h
    split at h
    · rename_i d q
      have hlt : i < G1.length := (List.getElem?_eq_some_iff.mp q).1
      have two : ∀ {σ1 : L2.St} {H1 : Hp}, Sat e (lendP P n i a) G1 σ1 H1 → Step Z H (Zn (lendP P n i a) G1 σ1) H1 → Sat e P (G1.set i (.own d)) σ1 H1 ∧ Step Z H (Zn P (G1.set i (.own d)) σ1) H1 := fun {σ1 H1} S st => by
        obtain ⟨ha, _⟩ := lend_at S q
        rw [unlend_zn (P := P) q ha] at st
        exact ⟨S.unlend F q, st⟩
      cases c with
      | nx => exact fun σ1 H1 S st => h σ1 H1 (two S st).1 (two S st).2
      | brk => exact fun σ1 H1 S st => h σ1 H1 (two S st).1 (two S st).2
      | ct => exact fun σ1 H1 S st => h σ1 H1 (two S st).1 (two S st).2
      | ret pv =>
        cases pv with
        | sl j => exact h
        | val d' =>
          intro v σ1 H1 S r
          obtain ⟨ha, _⟩ := lend_at S q
          rw [unlend_zn (P := P) q ha] at r
          exact h v σ1 H1 (S.unlend F q) r
        | fr d' =>
          intro p σ1 H1 S
          have q' : (G1 ++ [Sl.own d'])[i]? = some (.lnd d) := get_append q
          have S2 := S.unlend F q'
          rw [List.set_append_left _ _ hlt] at S2
          exact h p σ1 H1 S2
    · exact h.elim
end
/-! ### the loop -/
def fLoopO (i : Nat) (g : GF) (b : SF) (n : Nat) : Nat → SF
  | 0 => fun G => match G[i]? with
    | some (.lnd (.lst ds)) => if ds.length = n then .ok .nx G else .bad
    | _ => .bad
  | m + 1 => fun G => match G[i]? with
    | some (.lnd (.lst ds)) => if ds.length = n then (match ds[n - (m + 1)]? with
      | some d => (match g d G with
        | none => .bad
        | some G1 => (b G1).bind fun c G2 => match c with
          | .nx => fLoopO i g b n m G2
          | .ct => fLoopO i g b n m G2
          | .brk => .ok .nx G2
          | .ret v => .ok (.ret v) G2)
      | none => .bad) else .bad
    | _ => .bad
def cForO (i : Nat) (g : GF) (b : SF) : SF := fun G => match G[i]? with
  | some (.own (.lst ds)) => unl i (fLoopO i g b ds.length ds.length (G.set i (.lnd (.lst ds))))
  | some (.lnd (.lst ds)) => fLoopO i g b ds.length ds.length G
  | _ => .bad
section
variable {e : Ev} {W : WX} {P P' : Pre} {σ σ2 : L2.St} {G G1 G2 : List Sl} {H H1 H2 : Hp} {Z Z' : Zo} {X : Cx} {i n : Nat} {a : Addr} {d : D}
/-- the loop, once the list is lent -/
theorem forO_main {g : GF} {fb : SF} {Dn : Ends} {ds : List D} (S : Sat e P' G1 σ H) (hi : G1[i]? = some (.lnd (.lst ds))) (ha : σ[i]? = some (some (.ref a))) (hpv : ∀ v, P'.pv[i]? = some v → v = .ref a)
    (post : PostS e W P' (Zn P' G1 σ) H Dn (fLoopO i g fb ds.length ds.length G1)) : tFor (iList X.K (tVar i)) (tG e g) (tS e W fb) Dn σ H := by
  have at_ : ∀ {Gi : List Sl} {σ' : L2.St} {H' : Hp} {d : D}, Sat e P' Gi σ' H' → Gi[i]? = some (.lnd d) → At e (Zn P' Gi σ') H' d a := fun {Gi σ' H' d} S' h' => by
    obtain ⟨b, k1, k2, _, _, k5⟩ := S'.slot i _ h'
    cases hpv _ k2
    exact k5
  obtain ⟨vs, hv, rv⟩ := at_ S hi
  refine ⟨.ref a, ha, a, rfl, ⟨vs, SqL.of hv⟩, fun j m σ' H' => m = ds.length - j ∧ j ≤ ds.length ∧ ∃ Gi, Sat e P' Gi σ' H' ∧ Step (Zn P' G1 σ) H (Zn P' Gi σ') H' ∧ PostS e W P' (Zn P' G1 σ) H Dn (fLoopO i g fb ds.length (ds.length - j) Gi), ⟨ds.length, by simp, Nat.zero_le _, G1, S, Step.refl _ _, by simpa using post⟩, ?_⟩
  rintro j m σ' H' ⟨rfl, hj, Gi, Si, sti, post⟩
  by_cases hlt : j < ds.length
  · obtain ⟨m, hm⟩ : ∃ m, ds.length - j = m + 1 := ⟨ds.length - j - 1, by omega⟩
    rw [hm] at post
    unfold fLoopO at post
    split at post
    · rename_i ds' q
      split at post
      · rename_i hlen
        obtain ⟨vs', hv', rv'⟩ := at_ Si q
        have ej : ds.length - (m + 1) = j := by omega
        rw [ej] at post
        split at post
        · rename_i d qd
          obtain ⟨x, hx, rx⟩ := rv'.get qd
          refine .inr ⟨⟨vs', x, SqL.of hv', hx⟩, fun σ2 H2 => ∃ G2, Sat e P' G2 σ2 H2 ∧ Step (Zn P' G1 σ) H (Zn P' G2 σ2) H2 ∧ PostS e W P' (Zn P' G1 σ) H Dn (fLoopO i g fb ds.length m G2), fun σ2 H2 ⟨G2, a1, a2, a3⟩ => ⟨ds.length - (j + 1), by omega, rfl, hlt, G2, a1, a2, ?_⟩, fun x' H'' y => ?_⟩
          · have : ds.length - (j + 1) = m := by omega
            rw [this]; exact a3
          obtain ⟨rfl, y2⟩ := y
          have := y2 vs' (SqL.of hv')
          rw [hx] at this
          cases this
          refine ⟨P', Gi, d, Si, rx, ?_⟩
          split at post
          · exact post.elim
          · rename_i G3 q3
            rw [q3]
            intro σ3 S3 st3
            have st3' := sti.trans st3
            refine ⟨P', G3, S3, ?_⟩
            cases qb : fb G3 with
            | bad => rw [qb] at post; exact post.elim
            | ex c ns es G4 => rw [qb] at post; exact fun cls dx σ4 H4 S4 st4 r => post cls dx σ4 H4 S4 (st3'.trans st4) r
            | ok c G4 =>
              rw [qb] at post
              cases c with
              | nx => exact fun σ4 H4 S4 st4 => ⟨G4, S4, st3'.trans st4, post⟩
              | ct => exact fun σ4 H4 S4 st4 => ⟨G4, S4, st3'.trans st4, post⟩
              | brk => exact fun σ4 H4 S4 st4 => post σ4 H4 S4 (st3'.trans st4)
              | ret v => cases v <;> exact post
        · exact post.elim
      · exact post.elim
    · exact post.elim
  · have e1 : j = ds.length := by omega
    subst e1
    rw [Nat.sub_self] at post
    unfold fLoopO at post
    split at post
    · rename_i ds' q
      split at post
      · rename_i hlen
        obtain ⟨vs', hv', rv'⟩ := at_ Si q
        exact .inl ⟨⟨vs', SqL.of hv', by rw [rv'.length, hlen]; exact Nat.le_refl _⟩, post σ' H' Si sti⟩
      · exact post.elim
    · exact post.elim
theorem ds_forO {tg : Expr} {body : List Stmt} {g : GF} {fb : SF} {x : Str} {p pos : Pos} (i : Nat) (hp : PassesOwn (model X.prog X.w) X.A X.env X.xe) (hc : X.calm = true) (hg : PG X tg (tG e g)) (hb : PSs X body (tS e W fb))
    (hN : X.N[i]? = some x := by rfl) (hv : Vis X.env.scope x := by first | exact Or.inl rfl | exact Or.inr (Or.inl rfl) | exact Or.inr (Or.inr rfl)) (hd : (x == ("__debug__" : Str)) = false := by decide) (hcd : (x == ("__classdict__" : Str)) = false := by decide)
    (hs : ∀ y, foldedSetIterable (.Name x p) X.env y = pure y := by intro _; rfl) : PS X (.For tg (.Name x p) body [] pos) (tS e W (cForO i g fb)) := (ps_for hp hc (pi_list (pe_var hN hv hd hcd)) hg hb hs).imp fun Dn σ H h => by
  obtain ⟨P, G, S, h⟩ := h
  unfold cForO at h
  split at h
  · rename_i ds q
    obtain ⟨a, ha, _⟩ := S.slot i _ q
    obtain ⟨F, S'⟩ := S.lend q ha
    have hlt : i < G.length := (List.getElem?_eq_some_iff.mp q).1
    refine forO_main (a := a) S' (by rw [List.getElem?_set_self hlt]) ha (fun v hv => by have := lend_pv' hv; rwa [if_pos rfl] at this) ?_
    rw [lend_zn q ha]
    exact PostS.unl F h
  · rename_i ds q
    obtain ⟨a, ha, hpv, _⟩ := S.slot i _ q
    exact forO_main (a := a) S q ha (fun v hv => by rw [hpv] at hv; exact (Option.some.inj hv).symm) h
  · exact h.elim
end
/-- by the number of the turn; the list stays -/
theorem fLoopO_ix {i : Nat} {g : GF} {b : SF} {ds : List D} {G : List Sl} (I : Nat → List Sl → Prop) (h0 : I 0 G) (hi : ∀ j G, I j G → G[i]? = some (.lnd (.lst ds)))
    (step : ∀ (j : Nat) (d : D) (G : List Sl), ds[j]? = some d → I j G → ∃ G1 c G2, g d G = some G1 ∧ b G1 = .ok c G2 ∧ (c = .nx ∨ c = .ct) ∧ I (j + 1) G2) : ∃ G', fLoopO i g b ds.length ds.length G = .ok .nx G' ∧ I ds.length G' := by
  have main : ∀ (m j : Nat) (G : List Sl), m = ds.length - j → j ≤ ds.length → I j G → ∃ G', fLoopO i g b ds.length m G = .ok .nx G' ∧ I ds.length G' := by
    intro m
    induction m with
    | zero =>
      intro j G hm hj h
      have : j = ds.length := by omega
      subst this
      refine ⟨G, ?_, h⟩
      unfold fLoopO
      rw [hi _ _ h]
      simp
    | succ m ih =>
      intro j G hm hj h
      have hlt : j < ds.length := by omega
      obtain ⟨G1, c, G2, k1, k2, k3, k4⟩ := step j ds[j] G (List.getElem?_eq_getElem hlt) h
      obtain ⟨G', e1, e2⟩ := ih (j + 1) G2 (by omega) hlt k4
      refine ⟨G', ?_, e2⟩
      have ej : ds.length - (m + 1) = j := by omega
      unfold fLoopO
      rw [hi _ _ h]
      simp only [if_true, ej, List.getElem?_eq_getElem hlt, k1, k2, R.bind_ok]
      rcases k3 with rfl | rfl <;> exact e1
  exact main ds.length 0 G (by simp) (Nat.zero_le _) h0
section
variable {i : Nat} {g : GF} {b : SF} {G : List Sl} {d : D}
@[simp] theorem cForO_ap : cForO i g b G = match G[i]? with
  | some (.own (.lst ds)) => unl i (fLoopO i g b ds.length ds.length (G.set i (.lnd (.lst ds))))
  | some (.lnd (.lst ds)) => fLoopO i g b ds.length ds.length G
  | _ => .bad := rfl
@[simp] theorem unl_ok {c : Ctl} : unl i (.ok c G) = match G[i]? with
    | some (.lnd d) => .ok c (G.set i (.own d))
    | _ => .bad := rfl
@[simp] theorem unl_ex {c : Nat} {ns : List Nat} {ds : List D} : unl i (.ex c ns ds G) = match G[i]? with
    | some (.lnd d) => .ex c ns ds (G.set i (.own d))
    | _ => .bad := rfl
end
end PD

/-! PD36: an own exception class whose __init__ says super().__init__(text) and keeps one argument: the walk -/
namespace PD
open PySem PySem.Spec PySem.Calls PySem.W L2
abbrev VEi : String := "ValueError.__init__"
structure SupF (Pg : Program) (K : Frag) (mg : Str → Option Value) (C fI : Addr) (f : Str) : Prop where
  T : OexC K C
  no : findIn K (.ref C) f = some none
  ini : findIn K (.ref C) "__init__" = some (some (.ref fI))
  tI : typeIn K (.ref fI) = some (.type "function")
  sup : ks_superIn K C C "__init__" = some (some (.builtin VEi))
  subV : subIn K (.ref C) (.type "ValueError") = some true
  subC : mroIn K C (.ref C) = some true
  op : nsIn K cStatics "thirdparty.any" = some none
  mgS : mg "super" = none
  top : (Pg.main.scope.names.lookup ("super" : Str)).isSome = false
  ex : ∃ (oc : Value) (od : Option Addr) (nm qual : Str) (params : Arguments) (scope : Scope) (dV kV doc pm : Value) (an : Option Addr) (cda : Addr) (ct : Value) (cc : Addr) (osl : Array (Option Value)) (ccl : Value) (cdd : Option Addr) (vs : Array Value) (ccs : Array (Option Value)) (file : Str) (tf : Tok) (cl : Value) (cld : Option Addr) (csl : Array (Option Value)) (p m : Str) (j : Nat) (p1 p2 p3 p4 p5 p6 p7 p8 p9 p10 : Pos) (ar : Arg) (ce : Expr) (fd : FuncData),
    ce = (.Call (.Attribute (.Call (.Name "super" p1) [] [] p2) "__init__" p3) [.Constant (.str m) j p4] [] p5) ∧ fd = ksFn nm qual params [.Expr ce p6, .Assign [.Attribute (.Name "self" p7) f p8] (.Name p p9) p10] scope dV kV doc pm an (.ref cda) ct cc ∧
    K.lookup fI = some ⟨oc, od, .func fd, osl⟩ ∧
    codeIn K (.ref cda) qual = true ∧ (K.lookup cda = some ⟨ccl, cdd, .fields vs, ccs⟩ ∧ vs[2]? = some (.str file tf) ∧ ((Pg.main.file : Str) == file) = true) ∧ K.lookup cc = some ⟨cl, cld, .cell (some (.ref C)), csl⟩ ∧
    (scope.isCoroutine = false ∧ scope.isGenerator = false ∧ scope.kind = .function ∧ ∀ x ∈ scope.names, x.2 ≠ .cell) ∧
    (scope.names.lookup ("super" : Str) = some .globalImplicit ∧ scope.names.lookup ("__class__" : Str) = some .free ∧ scope.names.lookup ("self" : Str) = some .local ∧ scope.names.lookup p = some .local) ∧
    ((params.posonlyargs ++ params.args).head? = some ar ∧ ar.arg = "self" ∧ p ≠ "self" ∧ (p == ("__debug__" : Str)) = false) ∧
    (∃ pl : Env → Sem Bool, ∀ env : Env, eval ce env = (do
      let ov ← attributeBase (.Call (.Name "super" p1) [] [] p2) "__init__" env (eval (.Call (.Name "super" p1) [] [] p2) env)
      standAt p3.atName
      let (f, first) ← holding [ov] (getMethod ov "__init__" (pl env))
      callWith p5 f first (backTo p5 (starEach [.Constant (.str m) j p4] env)) [])) ∧
    (∀ L : Addr, interactive (callEnv fd L fI) = false ∧ swapsWith ce none p6.line (callEnv fd L fI) = pure false ∧ swapsWith (.Name p p9) (some (.Attribute (.Name "self" p7) f p8)) p10.line (callEnv fd L fI) = pure false) ∧
    ∀ (s : Shared) (us : List Value), us.length = 2 → BindsTo s fd ⟨us, []⟩ ([("self" : Str), p].zip us)
section
variable {prog : Program} {w : World} {A : Around} {E : Value → Shared → Prop} {h : Heap} {g : Array GenState} {d : Drawn} {t : Nat} {os : OsState}
/-- the bound __init__ of ValueError, called -/
theorem bound_init {K : Frag} {C u a t0 : Addr} {rest : List Value} {Q : Value → Shared → Prop} (T : OexC K C) (X : K.In h) (he : h.get? a = some (PySem.HandSPX.excO C t0)) (hu : h.get? u = some (kxs_mw VEi a)) (hrest : rest.length ≤ sizeLine)
    (hq : ∀ h' t1, (∀ b o, b ≠ a → h.get? b = some o → h'.get? b = some o) → h'.get? a = some (PySem.HandSPX.excO C t1) → Q .none ⟨h', g, d, t, os⟩) :
    wpAny (model prog w) A (call (.ref u) rest) Q E ⟨h, g, d, t, os⟩ := by
  obtain ⟨nm, q, N, bs, bm, sn, sub, ab, col, dd, k0, k1, k2, k3, k5, hC, hbm⟩ := T.cls
  refine wpAny_call (codeAny_of_tree ?_)
  show wpAny _ A.in1 (callAny (.ref u) ⟨rest, []⟩) _ _ _
  simp only [callAny]
  refine wpAny_bind (wpAny_load hu ?_)
  simp only [kxs_mw, show (Value.type "method-wrapper" == Value.type "method" || Value.type "method-wrapper" == Value.type "builtin_function_or_method" || Value.type "method-wrapper" == Value.type "method-wrapper") = true by decide, if_true]
  refine KFB.if_so (by decide) ?_
  refine wpAny_bind (check_bound_init F.excBase_ValueError.toExcCallFacts (X _ _ hC) he rfl ?_)
  refine wpAny_bind (wpAny_pure (wpAny_pure ?_))
  refine ⟨Code.quiet_builtin _ (by decide +kernel), codeAny_builtin F.excBase_ValueError.initEntry ?_⟩
  rw [Around.under_plainId F.excBase_ValueError.init.plain _]
  wp_walk
  refine hq _ h.objs.size (fun b o hb ho => ?_) ?_
  · rw [Heap.get?_update_other _ _ (Ne.symm hb)]
    exact Heap.get?_push_of_some _ ho
  · rw [Heap.get?_update_self _ (Heap.get?_push_of_some _ he) rfl]
    rfl
end
end PD
namespace PD
open PySem PySem.Spec PySem.Calls PySem.W L2
section
variable {Pg : Program} {w : World} {A : Around} {E : Value → Shared → Prop} {hp : Heap} {g : Array GenState} {d : Drawn} {t : Nat} {os : OsState}
/-- C.__init__(a, u) -/
theorem init_run {K : Frag} {mg mb : Str → Option Value} {C fI a t0 : Addr} {f : Str} {u : Value} {R : Result → Shared → Prop} (F : SupF Pg K mg C fI f) (X : K.In hp) (ka : K.lookup a = none) (lim : hp.NoLimit) (glob : hp.Ns mainGlobals mg) (blt : hp.Ns builtinsNs mb) (bv : mb "super" = some (.type "super"))
    (hx : hp.get? a = some (PySem.HandSPX.excO C t0)) (room : A.depth < recursionLimit)
    (hq : ∀ h' t' t1 dx, (∀ b o, b ≠ a → hp.get? b = some o → h'.get? b = some o) → hp.get? dx = none → dx ≠ a → h'.get? a = some ({ cls := .ref C, dict := some dx, data := .fields #[.ref t1, .none, .none, .none, .bool false, .none] } : Obj) →
      h'.Ns1 dx (fun y => if y = f then some u else none) → R (.ok (.ret .none)) ⟨h', g, d, t', os⟩) :
    codeAny (model Pg w) A (.call (.ref fI) ⟨[.ref a, u], []⟩) R ⟨hp, g, d, t, os⟩ := by
  obtain ⟨oc, od, nm, qual, params, scope, dV, kV, doc, pm, an, cda, ct, cc, osl, ccl, cdd, vs, ccs, file, tf, cl, cld, csl, p, m, j, p1, p2, p3, p4, p5, p6, p7, p8, p9, p10, ar, ce, fd, rfl, rfl, lk, hcd, ⟨lk2, hvs, hfile⟩, lk3, ⟨hco, hgen, hk, hcell⟩, ⟨n1, n2, n3, n4⟩, ⟨hpa, har, hps, hpd⟩, ⟨pl, hev⟩, hsw, hb⟩ := F.ex
  obtain ⟨cnm, cq, cN, cbs, cbm, csn, csub, cab, ccol, cdd', k0, k1, k2, k3, k5, hC, hbm⟩ := F.T.cls
  have hcl : clsIn K C = some { name := cnm, bases := cbs, mro := .ref C :: cbm, ns := cN, qualname := cq, hasDict := true, slotNames := csn, subclasses := csub, abstract := cab, collection := ccol, hasDel := false } := by unfold clsIn; rw [hC] <;> rfl
  have I0 : InstAt hp a (PySem.HandSPX.excO C t0) C none := ⟨hx, rfl, rfl, trivial⟩
  have haC : a ≠ C := ks_ne X I0 hcl
  refine ks_codeAny_call_defAt room (X _ _ lk) rfl lim (codeRec_of X hcd) rfl (hb _ [.ref a, u] rfl) hcell (fun y hy => ?_) (fun h0 hns kk0 => ?_) hco hgen hk
  · simp at hy
    rcases hy with rfl | rfl
    · exact n3
    · exact n4
  have X0 := X.keeps kk0
  have hx0 := kk0 _ _ hx
  have hLa : hp.objs.size ≠ a := fun z => by
    have := Heap.lt_size hx
    rw [z] at this
    exact Nat.lt_irrefl _ this
  obtain ⟨w1, w2, w3⟩ := hsw hp.objs.size
  have l1 : ((([("self" : Str), p].zip [Value.ref a, u]).reverse).lookup ("self" : Str)) = some (.ref a) := by
    show ([(p, u), (("self" : Str), Value.ref a)] : List (Str × Value)).lookup ("self" : Str) = _
    have hb : (("self" : Str) == p) = false := by simpa using (Ne.symm hps)
    simp [List.lookup, hb]
  have l2 : ((([("self" : Str), p].zip [Value.ref a, u]).reverse).lookup p) = some u := by
    show ([(p, u), (("self" : Str), Value.ref a)] : List (Str × Value)).lookup p = _
    simp [List.lookup]
  -- the first statement
  refine ks_wpAt_execs_cons (ks_wpAt_Expr_any (ks_wpAt_MethodCall ?_ (hev _)) w1 w2)
  refine ks_wpAt_super_base (f := fI) (cc := cda) n1 n2 rfl rfl (X0 _ _ lk) rfl hpa rfl (X0 _ _ lk2) rfl hvs hfile F.top ?_
  refine ks_loadName_global hk n1 (loadGlobal_builtin (glob.keeps kk0) F.mgS (blt.keeps kk0) bv ⟨rfl, ?_⟩)
  refine wpAny_loadName_free hk n2 (c := cc) rfl ⟨_, X0 _ _ lk3, rfl⟩ ?_
  rw [har]
  refine wpAny_loadName_local hk n3 hns (v := .ref a) l1 ?_
  obtain ⟨oD, hD1, hD2⟩ : ∃ oD, h0.get? C = some oD ∧ oD.data = .cls { name := cnm, bases := cbs, mro := .ref C :: cbm, ns := cN, qualname := cq, hasDict := true, slotNames := csn, subclasses := csub, abstract := cab, collection := ccol, hasDel := false } := ⟨_, X0 _ _ hC, rfl⟩
  refine ks_wpAny_isType_cls hD1 hD2 ⟨rfl, ?_⟩
  refine ks_wpAny_call_super hD1 hD2 hx0 rfl (fun c z => by cases z) (looks_mroIn X0 F.subC) (fun h1 hso kk1 => ?_)
  have X1 := X0.keeps kk1
  have hx1 := kk1 _ _ hx0
  have I1 : InstAt h1 a (PySem.HandSPX.excO C t0) C none := ⟨hx1, rfl, rfl, trivial⟩
  refine kxs_getMethod kxs_ValueError hso (looks_opaque X1 F.op) (l₀ := .ref C :: cbm) (fun A Q E s k q => wpAny_bind ((looks_clsIn X1 hcl) A _ E s k (wpAny_pure q))) rfl X1 (by
    have := F.sup
    unfold ks_superIn at this
    rw [hcl] at this
    exact this) (I1.type.andThen (looks_subIn X1 F.subV)) haC rfl ?_
  have hu2 : (h1.push (kxs_mw VEi a)).get? h1.objs.size = some (kxs_mw VEi a) := Heap.get?_push_at rfl rfl
  have kk2 : ∀ b o, h1.get? b = some o → (h1.push (kxs_mw VEi a)).get? b = some o := fun b o e => Heap.get?_push_of_some _ e
  have X2 := X1.keeps kk2
  have hx2 := kk2 _ _ hx1
  refine kxs_callWith (i := VEi) (x := a) (by rfl) (evalArgs_plain (spliced_cons (Constant_str (k := j) (pos := p4) (spliced_nil ⟨hu2, ?_⟩))))
  refine bound_init F.T X2 hx2 hu2 (by show 1 ≤ sizeLine; rw [sizeLine_eq]; omega) fun h3 t1 kk3 hx3 => ?_
  -- the second one
  have kk : ∀ b o, b ≠ a → h0.get? b = some o → h3.get? b = some o := fun b o hb e => kk3 b o hb (kk2 _ _ (kk1 _ _ e))
  have X3 : K.In h3 := fun b o e => by
    refine kk b o (fun z => ?_) (X0 b o e)
    subst z
    rw [ka] at e
    cases e
  have hns3 : h3.Ns hp.objs.size (fun y => (([("self" : Str), p].zip [Value.ref a, u]).reverse).lookup y) := by
    obtain ⟨o, es, ep, ho, hr⟩ := hns
    exact ⟨o, es, ep, kk _ _ hLa ho, hr⟩
  refine ks_wpAt_execs_cons (wpAt_of_wpAny (plainObj_wpAny_Assign_Attribute (ESX.ldL hns3 l2 ?_ hk n4 hpd) w3))
  refine ESX.ldL hns3 l1 ?_ hk n3
  refine set_plain X3 (ox := PySem.HandSPX.excO C t1) (od := none) ⟨hx3, rfl, rfl, trivial⟩ F.T.sa ?_
  refine PySem.HandSPX.exc_osa X3 hx3 hcl (show PySem.HandSPX.refsVE (.ref C :: cbm) = true from hbm) rfl F.no (fun h4 tk4 dx kk4 dn dne hx4 hn4 => ?_)
  refine wpAt_of_wpAny (wpAny_pure ?_)
  refine hq h4 tk4 t1 dx (fun b o hb e => kk4 b o hb (kk b o hb (kk0 b o e))) ?_ dne hx4 hn4
  cases q : hp.get? dx with
  | none => rfl
  | some o =>
    have := Heap.lt_size (kk _ _ dne (kk0 _ _ q))
    exact absurd this (Nat.not_lt.mpr dn)
end
end PD
namespace PD
open PySem PySem.Spec PySem.Calls PySem.W L2
/-- what the heap keeps while the exception gets its dict -/
theorem un_exc {fs : List Addr} {H : Hp} {hp h' : Heap} {a C dx : Addr} {l : List (Str × V)} (e : H a = some (exo a C none)) (hnd : H dx = none) (hfree : hp.get? dx = none) (k : ∀ b o, b ≠ a → hp.get? b = some o → h'.get? b = some o) (hx : ∃ o, h'.get? a = some o) :
    Un fs [] H (upd (upd H dx (exd dx l)) a (exo a C (some dx))) hp h' := by
  have nd : ∀ {b : Addr} {o : Obj}, hp.get? b = some o → b ≠ dx := fun {b o} q z => by rw [z, hfree] at q; cases q
  have na : ∀ {b : Addr}, H b = none → b ≠ a := fun {b} n z => by rw [z, e] at n; cases n
  exact {
    keep := fun b o q n _ _ => k b o (na n) q
    slot := fun b o q n _ _ => ⟨o.slots, k b o (na n) q⟩
    free := fun b o q n _ => by rw [upd_ne (na n), upd_ne (nd q)]; exact n
    there := fun b o q _ => by
      by_cases hb : b = a
      · rw [hb]; exact hx
      · exact ⟨o, k b o hb q⟩
    tups := fun b xs q => by rw [upd_ne (at_ne e q exo_tup), upd_ne (ne_of_none q hnd)]; exact q
    frzs := fun b o v q => by rw [upd_ne (at_ne e q exo_frz), upd_ne (ne_of_none q hnd)]; exact q
    tbls := fun b ps q => ⟨#[], by rw [upd_ne (at_ne e q exo_tbl), upd_ne (ne_of_none q hnd), q]; simp⟩ }
theorem hok_exc {P : Program} {w : World} {H : Hp} {hp h' : Heap} {a C dx t1 : Addr} {l : List (Str × V)} {mA : Str → Option Value} (hok : HOk P w H hp) (e : H a = some (exo a C none)) (hnd : H dx = none) (k : ∀ b o, b ≠ a → hp.get? b = some o → h'.get? b = some o)
    (hx : h'.get? a = some ({ cls := .ref C, dict := some dx, data := .fields #[.ref t1, .none, .none, .none, .bool false, .none] } : Obj)) (hn : h'.Ns1 dx mA) (r : ∀ f, RelO (l.lookup f) (mA f)) : HOk P w (upd (upd H dx (exd dx l)) a (exo a C (some dx))) h' := fun b o q => by
  by_cases hb : b = a
  · subst hb
    rw [upd_same] at q
    cases q
    exact exo_ok hx
  · rw [upd_ne hb] at q
    by_cases hd : b = dx
    · subst hd
      rw [upd_same] at q
      cases q
      exact exd_ok hn r
    · rw [upd_ne hd] at q
      exact (hok b o q).stay (fun c v hc z => k c v (by
          rcases hc with hc | hc
          · rw [hc]
            exact hb
          · exact at_ne e hc exo_own) z)
        (fun c hc => by rw [upd_ne (at_ne e hc exo_own), upd_ne (ne_of_none hc hnd)]; exact hc) (fun c xs hc => by rw [upd_ne (at_ne e hc exo_tup), upd_ne (ne_of_none hc hnd)]; exact hc)
section
variable {X : Cx} {C fI : Addr} {f x : Str} {e : Expr} {te : TE} {p pos : Pos} {k : Nat}
/-- C(e) -/
theorem pmk_sup (F : SupF X.prog X.K X.mg C fI f) (hr : Room (k + 1) X.A) (hg : Gl X x) (hm : X.mg x = some (.ref C)) (he : PE X e te)
    (hdb : (x == ("__debug__" : Str)) = false := by decide) (hs : starEach [e] X.env = (false, eval e X.env) :: starEach [] X.env := by rfl) (hpl : (backTo pos (starEach [] X.env)).any (·.1) = false := by rfl) :
    PMk X (.Call (.Name x p) [e] [] pos) (fun σ H Q => te σ H fun v H1 => ∀ d, H1 d = none → Q (.ref C) (some d) (upd H1 d (.xd [(f, v)]))) := by
  intro pins s σ H Q I h
  obtain ⟨nm, q, N, bs, bm, sn, sub, ab, col, dd, k0, k1, k2, k3, k5, hC, hbm⟩ := F.T.cls
  refine wpAny_Call_Name_kw (ld_glob I hg hm ?_ hdb)
  have ha : PA X [e] (tCons te tNil) := pa_cons he pa_nil hs
  refine callWith_K (h₀ := X.base) I.ok.mod.kin F.T.kC (thn (ha.run pos pins s σ H (fun vs H1 => match vs with
    | [v] => ∀ d, H1 d = none → Q (.ref C) (some d) (upd H1 d (.xd [(f, v)]))
    | _ => False) I h) fun us s1 hh => ?_) hs hpl
  obtain ⟨vs, H1, I1, r1, q1⟩ := hh
  obtain ⟨v, ev⟩ : ∃ v, vs = [v] := by
    cases vs with
    | nil => exact q1.elim
    | cons v r =>
      cases r with
      | nil => exact ⟨v, rfl⟩
      | cons _ _ => exact q1.elim
  subst ev
  refine ⟨I1.kIn, ?_⟩
  show wpAny _ _ (call (.ref C) us) _ _ _
  cases r1 with
  | @cons _ u _ us' ru rn =>
  cases rn
  obtain ⟨hp, g, dr, tk, os⟩ := s1
  have hsz : hp.objs.size ≤ hp.objs.size + 1 := Nat.le_succ _
  have kk : ∀ b o, hp.get? b = some o → ((hp.push (kdv_tup [u])).push (PySem.HandSPX.excO C hp.objs.size)).get? b = some o := fun b o e => Heap.get?_push_of_some _ (Heap.get?_push_of_some _ e)
  have hget : ((hp.push (kdv_tup [u])).push (PySem.HandSPX.excO C hp.objs.size)).get? (hp.objs.size + 1) = some (PySem.HandSPX.excO C hp.objs.size) := by heap_get
  generalize hhp2 : (hp.push (kdv_tup [u])).push (PySem.HandSPX.excO C hp.objs.size) = hp2 at kk hget
  generalize haa : hp.objs.size + 1 = a at hget hsz
  have hna : hp.get? a = none := by
    cases q : hp.get? a with
    | none => rfl
    | some o => exact absurd (Heap.lt_size q) (Nat.not_lt.mpr hsz)
  have hn : H1 a = none := I1.hok.gone hna
  have I2 : Inv X pins σ (upd H1 a (exo a C none)) ⟨hp2, g, dr, tk, os⟩ :=
    I1.laid (t' := tk) (a := a) (o := exo a C none) (h' := hp2) kk hsz (exo_ok hget)
  have ka : X.K.lookup a = none := by
    cases q : X.K.lookup a with
    | none => rfl
    | some o => have := I1.kIn a o q; rw [show (⟨hp, g, dr, tk, os⟩ : Shared).heap = hp from rfl, hna] at this; cases this
  obtain ⟨mb, b1, b2⟩ := I2.mod.blt
  have hus : ([u] : List Value).length ≤ sizeLine := by show 1 ≤ sizeLine; rw [sizeLine_eq]; omega
  refine wpAny_call (PySem.HandSPX.call_own PySem.F.excBase_ValueError (fun Y => PySem.HandSPX.refsVE_contains Y bm hbm) (I1.kIn _ _ hC) (looks_findIn I1.kIn F.ini) (fun self => bind_fn I1.kIn self F.tI) hus ?_)
  rw [hhp2, haa]
  refine init_run F I2.kIn ka ?_ (I2.mod.glob.keeps I2.bk) (b1.keeps I2.bk) ((b2 _ (by decide)).trans (by decide +kernel)) hget (hr.make C [u] []).depth fun h' t' t1 dx k2 hdx hda hx hn1 => ?_
  · exact I2.env0.mod.nolimit.keeps fun b o e => (I2.env0.bs b o e).1
  · have hnd2 : hp.get? dx = none := by
      cases q : hp.get? dx with
      | none => rfl
      | some o => rw [kk _ _ q] at hdx; cases hdx
    have hnd : (upd H1 a (exo a C none)) dx = none := by rw [upd_ne hda]; exact I1.hok.gone hnd2
    have ea : (upd H1 a (exo a C none)) a = some (exo a C none) := upd_same
    refine ⟨rfl, mk_end (raises_own F.T.exC F.T.tyC) I1 hsz kk (un_exc (l := [(f, v)]) ea hnd hdx k2 ⟨_, hx⟩) (hok_exc I2.hok ea hnd k2 hx hn1 (relO_put (fs := []) ru fun g => True.intro)) rfl I2.bare upd_same (by rw [upd_ne hda, upd_same]) (I1.hok.gone hnd2) ?_⟩
    have : upd (del (upd (upd (upd H1 a (exo a C none)) dx (exd dx [(f, v)])) a (exo a C (some dx))) a) dx (.xd [(f, v)]) = upd H1 dx (.xd [(f, v)]) := by
      funext b
      by_cases hb : b = dx
      · rw [hb, upd_same, upd_same]
      · rw [upd_ne hb, upd_ne hb]
        by_cases hba : b = a
        · rw [hba, del_same, hn]
        · rw [del_ne hba, upd_ne hba, upd_ne hb, upd_ne hba]
    rw [this]
    exact q1 dx (I1.hok.gone hnd2)
end
end PD

/-! PD37: raise C(e), C with one field; e.f -/
namespace PD
open PySem PySem.Spec PySem.Calls PySem.W L2 L2H
def oexB (K : Frag) (C : Addr) : Bool := match K.lookup C with
  | some ⟨.type t, _, .cls ⟨_, _, .ref C' :: bm, _, _, hd, _, _, _, _, hdel⟩, sl⟩ => decide (t = "type") && (decide (C' = C) && (hd && (!hdel && (PySem.HandSPX.refsVE bm && (match sl.toList with
    | [_, _, _, _, some (.builtin n), _] => decide (n = "ValueError.__new__")
    | _ => false)))))
  | _ => false
theorem oexB_ok {K : Frag} {C : Addr} (h : oexB K C = true) : ∃ nm q N bs bm sn sub ab col dd k0 k1 k2 k3 k5, K.lookup C = some (excClassObj nm q C N bs bm true sn sub ab col dd k0 k1 k2 k3 k5 "ValueError.__new__") ∧ PySem.HandSPX.refsVE bm = true := by
  unfold oexB at h
  split at h
  · rename_i t dd nm bs C' bm N q hd sn sub ab col hdel sl lk
    simp only [Bool.and_eq_true, decide_eq_true_eq, Bool.not_eq_true'] at h
    obtain ⟨rfl, rfl, h1, h2, h3, h4⟩ := h
    subst h1 h2
    split at h4
    · rename_i k0 k1 k2 k3 n k5 hs
      have h5 := of_decide_eq_true h4
      subst h5
      have hsl : sl = #[k0, k1, k2, k3, some (.builtin "ValueError.__new__"), k5] := by
        rw [← Array.toArray_toList (xs := sl), hs]
      subst hsl
      exact ⟨nm, q, N, bs, bm, sn, sub, ab, col, dd, k0, k1, k2, k3, k5, lk, h3⟩
    · cases h4
  · cases h
def cellB (K : Frag) (C fI : Addr) (file : Str) : Bool := match K.lookup fI with
  | some ⟨_, _, .func fd, _⟩ => (match fd.code, fd.closure with
    | .ref cda, [(_, cc)] => (match K.lookup cda with
      | some ⟨_, _, .fields vs, _⟩ => (match (vs[2]? : Option Value) with
        | some (.str file' _) => decide (file' = file)
        | _ => false)
      | _ => false) && (match K.lookup cc with
      | some ⟨_, _, .cell (some (.ref D)), _⟩ => decide (D = C)
      | _ => false)
    | _, _ => false)
  | _ => false
def supB (c fl : Nat) (file : Str) (nm : Nat → Str) (K : Frag) : Bool :=
  oexB K (He.ga K (nm c)) && (eqV (findIn K (.ref (He.ga K (nm c))) "__setattr__") (some (some (.builtin "object.__setattr__"))) && (decide (subIn K (.ref (He.ga K (nm c))) (.type "BaseException") = some true) && (decide (typeIn K (.ref (He.ga K (nm c))) = some (.type "type")) && (keepIn K (.ref (He.ga K (nm c))) &&
  (eqV (findIn K (.ref (He.ga K (nm c))) (nm fl)) (some none) && (eqV (findIn K (.ref (He.ga K (nm c))) "__init__") (some (some (.ref (He.ma K (He.ga K (nm c)) "__init__")))) && (decide (typeIn K (.ref (He.ma K (He.ga K (nm c)) "__init__")) = some (.type "function")) &&
  (eqV (ks_superIn K (He.ga K (nm c)) (He.ga K (nm c)) "__init__") (some (some (.builtin VEi))) && (decide (subIn K (.ref (He.ga K (nm c))) (.type "ValueError") = some true) && (decide (mroIn K (He.ga K (nm c)) (.ref (He.ga K (nm c))) = some true) && (eqV (nsIn K cStatics "thirdparty.any") (some none) &&
  (cellB K (He.ga K (nm c)) (He.ma K (He.ga K (nm c)) "__init__") file && (xfB K (He.ga K (nm c)) && eqV (findIn K (.ref (He.ga K (nm c))) (nm fl)) (some none))))))))))))))
/-- what the def's text tells -/
structure ExT (d : He5.DefA) (f : Str) (fI : Addr) : Prop where
  ex : ∃ (p m : Str) (j : Nat) (p1 p2 p3 p4 p5 p6 p7 p8 p9 p10 : Pos) (ar : Arg) (ce : Expr),
    ce = .Call (.Attribute (.Call (.Name "super" p1) [] [] p2) "__init__" p3) [.Constant (.str m) j p4] [] p5 ∧ d.body = [.Expr ce p6, .Assign [.Attribute (.Name "self" p7) f p8] (.Name p p9) p10] ∧
    (d.scope.isCoroutine = false ∧ d.scope.isGenerator = false ∧ d.scope.kind = .function ∧ ∀ x ∈ d.scope.names, x.2 ≠ .cell) ∧
    (d.scope.names.lookup ("super" : Str) = some .globalImplicit ∧ d.scope.names.lookup ("__class__" : Str) = some .free ∧ d.scope.names.lookup ("self" : Str) = some .local ∧ d.scope.names.lookup p = some .local) ∧
    ((d.params.posonlyargs ++ d.params.args).head? = some ar ∧ ar.arg = "self" ∧ p ≠ "self" ∧ (p == ("__debug__" : Str)) = false) ∧
    (∃ pl : Env → Sem Bool, ∀ env : Env, eval ce env = (do
      let ov ← attributeBase (.Call (.Name "super" p1) [] [] p2) "__init__" env (eval (.Call (.Name "super" p1) [] [] p2) env)
      standAt p3.atName
      let (f, first) ← holding [ov] (getMethod ov "__init__" (pl env))
      callWith p5 f first (backTo p5 (starEach [.Constant (.str m) j p4] env)) [])) ∧
    (∀ (dV kV doc pm : Value) (an : Option Addr) (cdv ct : Value) (cc L : Addr), interactive (callEnv (ksFn d.name d.qual d.params d.body d.scope dV kV doc pm an cdv ct cc) L fI) = false ∧ swapsWith ce none p6.line (callEnv (ksFn d.name d.qual d.params d.body d.scope dV kV doc pm an cdv ct cc) L fI) = pure false ∧
      swapsWith (.Name p p9) (some (.Attribute (.Name "self" p7) f p8)) p10.line (callEnv (ksFn d.name d.qual d.params d.body d.scope dV kV doc pm an cdv ct cc) L fI) = pure false) ∧
    ∀ (kV doc pm : Value) (an : Option Addr) (cdv ct : Value) (cc : Addr) (us : List Value), us.length = 2 → bindArgs (ksFn d.name d.qual d.params d.body d.scope .none kV doc pm an cdv ct cc) ⟨us, []⟩ = pure ([("self" : Str), p].zip us)
/-- the program's file -/
structure PgF (Pg : Program) (file : Str) : Prop where
  file : ((Pg.main.file : Str) == file) = true
  top : (Pg.main.scope.names.lookup ("super" : Str)).isSome = false
theorem supB_ok {Pg : Program} {e : Ev} {mg : Str → Option Value} {c fl : Nat} {file : Str} {d : He5.DefA} (h : supB c fl file e.nm e.K = true) (G : PgF Pg file) (hS : mg "super" = none) (hat : d.at_ e.K = He.ma e.K (e.ga c) "__init__") (dn : d.dvs e.K = [])
    (hD : ∃ (oc : Value) (od : Option Addr) (dV kV doc pm : Value) (an : Option Addr) (cdv ct : Value) (cc : Addr) (osl : Array (Option Value)),
      e.K.lookup (d.at_ e.K) = some ⟨oc, od, .func (PySem.W.ksFn d.name d.qual d.params d.body d.scope dV kV doc pm an cdv ct cc), osl⟩ ∧ PySem.W.codeIn e.K cdv d.qual = true ∧ He.dflB e.K dV (d.dvs e.K) = true ∧ PySem.W.keepIn e.K (.ref (d.at_ e.K)) = true)
    (tx : ExT d (e.nm fl) (d.at_ e.K)) : SupF Pg e.K mg (e.ga c) (d.at_ e.K) (e.nm fl) ∧ XfC e.K (e.ga c) := by
  unfold supB at h
  simp only [Bool.and_eq_true, decide_eq_true_eq, eqV] at h
  obtain ⟨b1, b2, b3, b4, b5, b6, b7, b8, b9, b10, b11, b12, b13, b14, b15⟩ := h
  rw [hat] at hD tx ⊢
  obtain ⟨oc, od, dV, kV, doc, pm, an, cdv, ct, cc, osl, lk, hcd, hdv, kp⟩ := hD
  have hdV : dV = .none := by
    rw [dn] at hdv
    cases dV <;> first
      | rfl
      | (simp [He.dflB] at hdv; done)
  subst hdV
  have b13' := b13
  unfold cellB at b13'
  rw [show He.ma e.K (He.ga e.K (e.nm c)) "__init__" = He.ma e.K (e.ga c) "__init__" from rfl, lk] at b13'
  dsimp only at b13'
  cases cdv with
  | ref cda =>
    dsimp only at b13'
    simp only [Bool.and_eq_true] at b13'
    obtain ⟨c1, c2⟩ := b13'
    split at c1
    · rename_i ccl cdd vs ccs lk2
      split at c1
      · rename_i file' tf hvs
        have c3 := of_decide_eq_true c1
        subst c3
        split at c2
        · rename_i cl cld D csl lk3
          have c4 := of_decide_eq_true c2
          subst c4
          obtain ⟨p, m, j, p1, p2, p3, p4, p5, p6, p7, p8, p9, p10, ar, ce, hce, hbody, t1, t2, t3, t4, t5, t6⟩ := tx.ex
          refine ⟨⟨⟨oexB_ok b1, b2, b3, b4, b5⟩, b6, b7, b8, b9, b10, b11, b12, hS, G.top, oc, od, d.name, d.qual, d.params, d.scope, .none, kV, doc, pm, an, cda, ct, cc, osl, ccl, cdd, vs, ccs, _, tf, cl, cld, csl, p, m, j, p1, p2, p3, p4, p5, p6, p7, p8, p9, p10, ar, ce, _, hce, rfl, ?_, hcd, ⟨lk2, hvs, G.file⟩, lk3, t1, t2, t3, t4, ?_, ?_⟩, xfB_ok b14⟩
          · rw [← hbody]; exact lk
          · rw [← hbody]; exact t5 _ _ _ _ _ _ _ _
          · rw [← hbody]; exact fun s us hu => .of_eq (t6 _ _ _ _ _ _ _ us hu)
        · cases c2
      · cases c1
    · cases c1
  | _ => cases b13'
end PD
namespace PD
open PySem PySem.Spec PySem.Calls L2 L2H
section
variable {e : Ev} {W : WX} {P : Pre} {σ : L2.St} {G G1 G2 : List Sl} {H H1 H2 : Hp} {Z : Zo} {X : Cx} {pos : Pos} {a : Expr} {fa : EF} {c fl k : Nat} {fI : Addr} {x : Str}
/-- raise C(e) -/
def cRaise1 (c fl : Nat) (fa : EF) : SF := fun G => (fa G).bind fun pv G1 => match esc pv G1 with
  | some (d, G2) => .ex c [fl] [d] G2
  | none => .bad
theorem ds_raise1 {p pos1 : Pos} (B : Bd e X W) (hc : X.calm = true) (F : SupF X.prog e.K X.mg (e.ga c) fI (e.nm fl) ∧ XfC e.K (e.ga c)) (hr : Room (k + 1) X.A) (hg : Gl X x) (hm : X.mg x = some (.ref (e.ga c))) (ha : PE X a (tD e W fa))
    (hdb : (x == ("__debug__" : Str)) = false := by decide) (hs : starEach [a] X.env = (false, eval a X.env) :: starEach [] X.env := by rfl) (hpl : (backTo pos1 (starEach [] X.env)).any (·.1) = false := by rfl) :
    PS X (.Raise (some (.Call (.Name x p) [a] [] pos1)) none pos) (tS e W (cRaise1 c fl fa)) := by
  have hK := B.hK
  refine (ps_raise hc B.tk (pmk_sup (hK ▸ F.1) hr hg hm ha hdb hs hpl)).imp fun D σ H h => ?_
  obtain ⟨P, G, S, h⟩ := h
  refine PostS.bindD S h fun pv G1 v H1 r q d hd => ?_
  obtain ⟨S1, st1, t1⟩ := r.tmp
  split at q
  · rename_i d' G2 q1
    obtain ⟨S2, st2, r2⟩ := esc_ok S1 t1 q1
    have S3 := S2.alloc (o := .xd [(e.nm fl, v)]) hd
    have st3 : Step (Zn P G2 σ) H1 (Zn P G2 σ) (upd H1 d (.xd [(e.nm fl, v)])) := step_grow (upd_keeps hd) fun _ _ z => z
    refine q _ _ σ _ S3 ((st1.trans st2).trans st3) ⟨rfl, .inr ⟨d, _, rfl, fun z => S2.zlive z hd, upd_same, rfl, ?_⟩⟩
    exact ⟨v, [], rfl, Rp.step st3 _ _ r2, rfl⟩
  · exact q.elim
/-- e.f, e an exception that is held -/
def cXf (cs : List Nat) (i fl : Nat) : EF := fun G => match G[i]? with
  | some (.exn c ns ds) => if cs.contains c then (match lkN ns ds fl with
    | some d => .ok (.val d) G
    | none => .bad) else .bad
  | _ => .bad
theorem de_xf {cs : List Nat} {i : Nat} {n : Str} {xp : Pos} (B : Bh e X) (hn : n = e.nm fl) (hc : ∀ c ∈ cs, XfC e.K (e.ga c) ∧ PySem.W.findIn e.K (.ref (e.ga c)) (e.nm fl) = some none) (hN : X.N[i]? = some x) (hv : Vis X.env.scope x)
    (hd : (x == ("__debug__" : Str)) = false := by decide) (hcd : (x == ("__classdict__" : Str)) = false := by decide) (hb : attributeBase (.Name x xp) n X.env (eval (.Name x xp) X.env) = eval (.Name x xp) X.env := by rfl) :
    PE X (.Attribute (.Name x xp) n pos) (tD e W (cXf cs i fl)) := by
  subst hn
  refine ⟨fun pins s σ H Q I h => ?_⟩
  obtain ⟨P, G, S, h⟩ := h
  unfold cXf at h
  split at h
  · rename_i c ns ds q0
    split at h
    · rename_i hcs
      split at h
      · rename_i d ql
        obtain ⟨p, h1, h2⟩ := S.slot _ _ q0
        obtain ⟨T, hno⟩ := hc c (by simpa using hcs)
        rcases h2 with ⟨rfl, _, _⟩ | ⟨dx, fs, h3, ⟨h4, h5⟩, h6, h7⟩
        · simp [lkN] at ql
        · obtain ⟨v, l, rp⟩ := lkN_ok h6 h7 ql
          have hK := B.hK
          obtain ⟨oe, hmem, hcls, hdict, vs, hdata⟩ := B.px _ _ _ h3
          refine attr_of hb (thn ((pe_var hN hv hd hcd).run pins s σ H (fun v' H' => v' = .ref p ∧ H' = H) I ⟨_, h1, rfl, rfl⟩) fun u s1 hh => ?_)
          obtain ⟨x', H1, I1, rx, ex, eH⟩ := hh
          subst ex eH
          obtain rfl : u = Value.ref p := rx
          obtain ⟨ha, _⟩ := I1.pin (p, oe) (List.mem_append_left _ hmem)
          have hx : ObjOk X.prog X.w H1 s1.heap dx (.xd fs) := I1.hok dx _ h5
          obtain ⟨mA, hns, hr⟩ := hx
          obtain ⟨od, ho, hl⟩ := lookIn_ns hns
          obtain ⟨u, hu, ru⟩ := RelO.some_of (v := v) (o := mA (e.nm fl)) (by rw [← l]; exact hr (e.nm fl))
          have J : PySem.W.InstAt s1.heap p oe (e.ga c) (some od) := ⟨ha, hcls, by unfold PySem.W.notCls; rw [hdata] <;> rfl, by rw [hdict]; exact ho⟩
          have KI := I1.kIn
          rw [hK] at KI
          exact HandSPX.exc_get KI J T.ga T.gg T.exC (PySem.W.findObj_own T.hdC hno rfl (by rw [hl, hu])) (handed_of ru) ⟨v, H1, I1.tok _, ru, h v H1 ⟨S, Step.refl _ _, rp⟩⟩
      · exact h.elim
    · exact h.elim
  · exact h.elim
@[simp] theorem cRaise1_ap : cRaise1 c fl fa G = (fa G).bind fun pv G1 => match esc pv G1 with
  | some (d, G2) => .ex c [fl] [d] G2
  | none => .bad := rfl
@[simp] theorem cXf_ap {cs : List Nat} {i : Nat} : cXf cs i fl G = match G[i]? with
  | some (.exn c ns ds) => if cs.contains c then (match lkN ns ds fl with
    | some d => .ok (.val d) G
    | none => .bad) else .bad
  | _ => .bad := rfl
end
end PD
namespace PD
open PySem PySem.W L2
theorem xf_of {e : Ev} {c fl : Nat} {file : Str} (h : supB c fl file e.nm e.K = true) : XfC e.K (e.ga c) ∧ PySem.W.findIn e.K (.ref (e.ga c)) (e.nm fl) = some none := by
  unfold supB at h
  simp only [Bool.and_eq_true, decide_eq_true_eq, eqV] at h
  obtain ⟨b1, b2, b3, b4, b5, b6, b7, b8, b9, b10, b11, b12, b13, b14, b15⟩ := h
  exact ⟨xfB_ok b14, b15⟩
end PD

/-! PD38: list.index of texts; enumerate; texts compared -/
namespace PD
open PySem PySem.Spec L2 L2H
section
variable {e : Ev} {W : WX} {P : Pre} {σ : L2.St} {G G1 G2 : List Sl} {H H1 H2 : Hp} {Z : Zo} {X : Cx} {pos : Pos} {a : Expr} {fa fo : EF}
def kIndex : List D → Option PV
  | [.lst ds, .str x] => match strsD ds with
    | some ys => if x ∈ ys then some (.val (.int (ys.idxOf x : Nat))) else none
    | none => none
  | _ => none
theorem strs_flat : ∀ {ys : List Str}, (ys.map V.str).all flatV = true
  | [] => rfl
  | y :: ys => by simp [flatV]
theorem bIndex (hK : X.K = e.K) : CallR X (.builtin "list.index") (rKB e kIndex) := by
  refine callK fun pins s σ H xs us Q Z ds r I rx zl r0 h q => ?_
  unfold kIndex at h
  split at h
  · rename_i ds x
    split at h
    · rename_i ys hys
      split at h
      · rename_i hm
        cases h
        obtain ⟨v, u, rfl, r1, r2⟩ := r0.two
        obtain ⟨a, vs, rfl, h1, h2⟩ := r1.lst
        cases r2.str
        have hvs : vs = ys.map V.str := strsD_ok h2 hys
        subst hvs
        have hlt := List.idxOf_lt_length_of_mem hm
        cases rx with
        | cons x1 xs =>
          refine L2.mt_index pins s σ H _ _ _ _ Q I x1 xs ⟨a, _, .str x, ys.idxOf x, .str x, rfl, rfl, SqL.of h1, rfl, strs_flat, ?_, by simp [L2.eqV], fun m z' hm' hz => ?_, q _ _ (Out.scal fun _ _ => rfl)⟩
          · rw [List.getElem?_map, List.getElem?_eq_getElem hlt]
            simp
          · rw [List.getElem?_map, Option.map_eq_some_iff] at hz
            obtain ⟨y, hy, rfl⟩ := hz
            obtain ⟨hml, hme⟩ := List.getElem?_eq_some_iff.mp hy
            have := List.not_of_lt_findIdx (p := fun z => z == x) (xs := ys) (i := m) hm'
            rw [hme] at this
            simpa [L2.eqV] using this
      · cases h
    · cases h
  · cases h
end
end PD
namespace PD
open PySem PySem.Spec L2 L2H PyProof.Rows
section
variable {e : Ev} {X : Cx}
theorem vals_of_chars : ∀ (l : List Nat) (us : List Value), us.length = l.length → (∀ (j : Nat) (v : Value), us[j]? = some v → ∃ (c : Nat) (u : Tok), l[j]? = some c ∧ v = Value.str ⟨#[c]⟩ u) → Vals (l.map fun c => V.str ⟨#[c]⟩) us
  | [], [], _, _ => .nil
  | [], _ :: _, h, _ => by simp at h
  | _ :: _, [], h, _ => by simp at h
  | c :: l, u :: us, h, k => by
    obtain ⟨c', t, h1, h2⟩ := k 0 u rfl
    simp at h1
    subst h1 h2
    exact .cons ⟨t, rfl⟩ (vals_of_chars l us (by simpa using h) fun j v hj => by simpa using k (j + 1) v (by simpa using hj))
theorem vals_chars {x : Str} {acc : Array Value} (h : ItemsOf (SignAt x) acc x.cps.size) : Vals (x.cps.toList.map fun c => V.str ⟨#[c]⟩) acc.toList := by
  obtain ⟨h1, h2⟩ := h
  refine vals_of_chars _ _ (by simpa using h1) fun j v hj => ?_
  obtain ⟨c, u, e1, e2⟩ := h2 j v (by simpa using hj)
  exact ⟨c, u, by simpa using e1, e2⟩
def kListS : List D → Option PV
  | [.str x] => if x.length ≤ 1000000 then some (.fr (.lst (chars x))) else none
  | _ => none
theorem rps_chars {Z : Zo} {H : Hp} : ∀ l : List Nat, Rps e Z H (l.map fun c => D.str ⟨#[c]⟩) (l.map fun c => V.str ⟨#[c]⟩)
  | [] => rfl
  | _ :: l => ⟨_, _, rfl, rfl, rps_chars l⟩
theorem bListS (hc : X.calm = true) : CallR X (.type "list") (rKB e kListS) := by
  refine callK fun pins s σ H xs us Q Z ds r I rx zl r0 h q => ?_
  unfold kListS at h
  split at h
  · rename_i x
    split at h
    · rename_i hl
      cases h
      obtain ⟨v, rfl, r1⟩ := r0.one
      cases r1.str
      obtain ⟨u, rfl, ru⟩ := vals1 rx
      obtain ⟨t, rfl⟩ := ru
      have hx : x.cps.size ≤ sizeLine := Nat.le_trans hl (by rw [sizeLine_eq]; omega)
      refine call_list_str (I.ok.hd hc) x t (fun h' tk acc' c' kp ho hi => ?_) hx
      have hv := vals_chars hi
      have I2 : Inv X pins σ (upd H s.heap.objs.size (.lst (x.cps.toList.map fun c => V.str ⟨#[c]⟩))) { s with heap := h', toks := tk } :=
        I.laid (t' := tk) kp (Nat.le_refl _) (show ObjOk X.prog X.w _ h' _ (.lst _) from ⟨by simpa using hx, acc'.toList, c', hv, by simpa using ho⟩)
      exact ⟨.ref s.heap.objs.size, _, I2, rfl, q _ _ (Out.newL (I.hok.fresh (Nat.le_refl _)) (rps_chars _))⟩
    · cases h
  · cases h
end
@[simp] theorem kListS_ap {x : Str} : kListS [.str x] = if x.length ≤ 1000000 then some (.fr (.lst (chars x))) else none := rfl
@[simp] theorem kIndex_ap {ds : List D} {x : Str} : kIndex [.lst ds, .str x] = match strsD ds with
    | some ys => if x ∈ ys then some (.val (.int (ys.idxOf x : Nat))) else none
    | none => none := rfl
@[simp] theorem hasTy_lst {ds : List D} : hasTy "list" (some (.lst ds)) = true := rfl
end PD

/-! PD39: enumerate(list) -/
namespace PD
open PySem PySem.Spec L2 L2H
section
variable {e : Ev} {W : WX} {P : Pre} {σ τ : L2.St} {G G1 G2 : List Sl} {H H1 H2 : Hp} {Z : Zo} {X : Cx} {a b : Expr} {fa fb : EF}
def enumD (ds : List D) : List D := ds.zipIdx.map fun p => .tup [.int (p.2 : Nat), p.1]
@[simp] theorem enumD_len {ds : List D} : (enumD ds).length = ds.length := by simp [enumD]
theorem enumD_get {ds : List D} {i : Nat} {d : D} (h : (enumD ds)[i]? = some d) : ∃ x, ds[i]? = some x ∧ d = .tup [.int (i : Nat), x] := by
  unfold enumD at h
  rw [List.getElem?_map, List.getElem?_zipIdx] at h
  cases q : ds[i]? with
  | none => rw [q] at h; cases h
  | some x => rw [q] at h; simp at h; exact ⟨x, rfl, h.symm⟩
theorem it_enum_of {a : Addr} {vs : List V} {ds : List D} {K : PySem.W.Frag} (r : Rps e Z H ds vs) (sq : ∀ Z' H', Step Z H Z' H' → Kp P H' → SqL K H' a vs) : ItOk e P Z H (Ite K a) (enumD ds) where
  go := fun Z' H' i s k hi => ⟨vs, vs[i]'(by rw [r.length]; simpa using hi), sq Z' H' s k, by simp⟩
  yl := fun Z' H' i d x H'' s k zl hd hy => by
    obtain ⟨T, y, rfl, hT, rfl, hy⟩ := hy
    obtain ⟨d', h1, rfl⟩ := enumD_get hd
    have rs := Rps.step s _ _ r
    obtain ⟨w, h2, h3⟩ := rs.get h1
    have := hy vs (sq Z' H' s k)
    rw [h2] at this; cases this
    refine ⟨upd_keeps hT, T, _, rfl, .inl ⟨fun z => zl T z hT, .inl upd_same⟩, ?_⟩
    exact ⟨_, _, rfl, rfl, _, _, rfl, Rp.step (step_upd hT) _ _ h3, rfl⟩
  st := fun Z' H' s k => ⟨vs, sq Z' H' s k, by rw [r.length, enumD_len]; exact Nat.le_refl _⟩
theorem it_enum {a : Addr} {vs : List V} {ds : List D} {K : PySem.W.Frag} (h : LsZ K Z H a vs) (r : Rps e Z H ds vs) : ItOk e P Z H (Ite K a) (enumD ds) := it_enum_of r fun _ _ s _ => LsZ.sq (h.imp s.rd id)
theorem it_enum_bor {a : Addr} {vs : List V} {ds : List D} {K : PySem.W.Frag} (h : P.H0 a = some (.lst vs)) (hw : ¬ P.Wr a) (hx : ¬ P.Xz a) (r : Rps e Z H ds vs) : ItOk e P Z H (Ite K a) (enumD ds) := it_enum_of r fun _ _ _ k => .inl (.inl (k a _ h hw hx))
def sEnumE (pv : PV) (G1 : List Sl) : R (List D) := match esc pv G1 with
  | some (d, G2) => (match itemsOf d with
    | some ds => .ok (enumD ds) G2
    | none => .bad)
  | none => .bad
def sEnum (fs : AF) : F (List D) := fun G => (fs G).bind fun ps G1 => match ps with
  | [pv] => (match pv with
    | .sl i => (match G1[i]? with
      | some (.bor (.lst ds)) => .ok (enumD ds) G1
      | _ => sEnumE pv G1)
    | _ => sEnumE pv G1)
  | _ => .bad
theorem di_enum {elts : List Expr} {kk : Nat} {tpos : Pos} {fs : AF} {p pos : Pos} (hK : X.K = e.K) (hg : Gl X "enumerate") (hm : X.mg "enumerate" = none) (ha : PA X [a] (tA e W fs)) (hs : starEach [a] X.env = [(false, eval a X.env)] := by rfl) : PI X (.Tuple elts kk tpos) (.Call (.Name "enumerate" p) [a] [] pos) (tI e W (sEnum fs)) := di_of (pi_enum hg hm ha hs) fun σ H R h => by
  obtain ⟨P, G, S, h⟩ := h
  refine PostR.bindIA S h fun ps G1 vs H1 S1 st1 t1 q => ?_
  split at q
  · rename_i pv
    obtain ⟨v, r, rfl, t1, rfl⟩ := t1
    have main : PostR e W P σ (Zn P G σ) H (fun ds G1 => ∀ J H1, Sat e P G1 σ H1 → Step (Zn P G σ) H (Zn P G1 σ) H1 → ItOk e P (Zn P G1 σ) H1 J ds → R J H1) (sEnumE pv G1) → ∃ a xs, [v] = [V.ref a] ∧ SqL X.K H1 a xs ∧ R (Ite X.K a) H1 := fun q => by
      unfold sEnumE at q
      split at q
      · rename_i d G2 q1
        obtain ⟨S2, st2, r2⟩ := esc_ok S1 t1 q1
        split at q
        · rename_i ds q2
          obtain ⟨a, vs, rfl, h1, h2⟩ := rp_fz hK r2 q2
          exact ⟨a, vs, rfl, h1.sq, q _ H1 S2 (st1.trans st2) (it_enum h1 h2)⟩
        · exact q.elim
      · exact q.elim
    split at q
    · rename_i i
      split at q
      · rename_i ds q1
        obtain ⟨a, h1, h2, h3, vs, h4, h5⟩ := S1.slot _ _ q1
        have t1 : σ[i]? = some (some v) := t1
        rw [h1] at t1; cases t1
        have hH : P.H0 a = some (.lst vs) := by
          cases hh : P.H0 a with
          | none => exact absurd hh (S1.z0 a h2)
          | some o => have := S1.keep a o hh (fun z => h3 (.inl z)); rw [h4] at this; cases this; rfl
        exact ⟨a, vs, rfl, .inl (.inl h4), q _ H1 S1 st1 (it_enum_bor hH (fun z => h3 (.inl z)) (fun z => h3 (.inr z)) h5)⟩
      · exact main q
    · exact main q
  · exact q.elim
end
@[simp] theorem sEnum_ap {fs : AF} {G : List Sl} : sEnum fs G = (fs G).bind fun ps G1 => match ps with
  | [pv] => (match pv with
    | .sl i => (match G1[i]? with
      | some (.bor (.lst ds)) => .ok (enumD ds) G1
      | _ => sEnumE pv G1)
    | _ => sEnumE pv G1)
  | _ => .bad := rfl
@[simp] theorem sEnumE_ap {pv : PV} {G : List Sl} : sEnumE pv G = match esc pv G with
  | some (d, G2) => (match itemsOf d with
    | some ds => .ok (enumD ds) G2
    | none => .bad)
  | none => .bad := rfl
@[simp] theorem itemsOf_lst {ds : List D} : itemsOf (.lst ds) = some ds := rfl
@[simp] theorem itemsOf_fz {ds : List D} : itemsOf (.fz ds) = some ds := rfl
end PD

/-! PD40: operators of own classes: x op y, ~x, -x, x[k], x[k] = v -/
namespace PD
open PySem PySem.Spec PySem.SeqAt L2 L2H PyProof.Rows
section
variable {e : Ev} {W : WX} {P : Pre} {σ : L2.St} {G G1 G2 : List Sl} {H H1 H2 : Hp} {Z : Zo} {X : Cx} {pos : Pos} {a b : Expr} {fa fb fk fv : EF} {c n : Nat} {m : MF} {mds : List Md} {f : Addr}
def sfB (c : Nat) (nm : Nat → Str) (K : PySem.W.Frag) : Bool := PySem.W.selfFirst K (He.ga K (nm c))
def nsB (c : Nat) (nm : Nat → Str) (K : PySem.W.Frag) : Bool := PySem.W.noSeq K (He.ga K (nm c))
theorem ow_bin {op : Operator} {d : Str} (B : Bd e X W) (sf : sfB c e.nm e.K = true) (hd : PySem.dunder op.info.2 = d) (hm : Meth e.K (e.ga c) d f) (cb : Clb X W f (spD e n m)) : OpO X (binaryOp op) (rOw e W false false c n m) := by
  subst hd
  intro pins s σ H x y v u Q I rx ry h
  obtain ⟨⟨p, dx, fs, rfl, hx⟩, ⟨q, dy, gs, rfl, hy⟩, h⟩ := h
  obtain rfl : v = Value.ref p := rx
  obtain rfl : u = Value.ref q := ry
  obtain ⟨ox, od, J⟩ := inst_of I hx
  obtain ⟨oy, od', J'⟩ := inst_of I hy
  obtain ⟨m', hF⟩ := I.fr
  have hK := B.hK
  have sf : PySem.W.selfFirst e.K (e.ga c) = true := sf
  refine PySem.W.binop_K (op := op) hF I.ok.mod.kin J J'.type (hK ▸ sf) (hK ▸ hm.at_) (hK ▸ hm.fn) ?_
  exact wpAny_mono (cb pins s σ H [.ref p, .ref q] [.ref p, .ref q] Q I (.cons rfl (.cons rfl .nil)) h) (fun w s' z => ep_back z) fun _ _ x => x
theorem de_unO {op : UnaryOp} (ho : OnO X e W (fun Q => Q) c m (unaryOp op)) (ha : PE X a (tD e W fa)) : PE X (.UnaryOp op a pos) (tD e W (cO1 (fun r => r) c m fa)) := by
  refine ⟨fun pins s σ H Q I h => UnaryOp_ (thn (ha.run pins s σ H _ I (tD_O1 fin_id h)) fun v s1 ⟨x, H1, I1, r1, hi, q⟩ => ?_)⟩
  obtain ⟨q1, dx, fs, rfl, hq⟩ := id hi
  cases r1
  exact ho pins s1 σ H1 q1 Q I1 hi q
theorem oo_inv (B : Bd e X W) (hm : Meth e.K (e.ga c) "__invert__" f) (cb : Clb X W f (spD e 1 m)) : OnO X e W (fun Q => Q) c m (unaryOp .Invert) := by
  intro pins s σ H q Q I hi h
  obtain ⟨q, dx, fs, e1, hq⟩ := hi
  cases e1
  obtain ⟨ox, od, J⟩ := inst_of I hq
  obtain ⟨m', hF⟩ := I.fr
  have hK := B.hK
  exact PySem.W.ksp_inv hF I.ok.mod.kin J (hK ▸ hm.at_) (hK ▸ hm.fn) (cb pins s σ H [.ref q] [.ref q] Q I (.cons rfl .nil) h)
theorem oo_neg (B : Bd e X W) (hm : Meth e.K (e.ga c) "__neg__" f) (cb : Clb X W f (spD e 1 m)) : OnO X e W (fun Q => Q) c m (unaryOp .USub) := by
  intro pins s σ H q Q I hi h
  obtain ⟨q, dx, fs, e1, hq⟩ := hi
  cases e1
  obtain ⟨ox, od, J⟩ := inst_of I hq
  obtain ⟨m', hF⟩ := I.fr
  have hK := B.hK
  exact PySem.W.ksp_neg hF I.ok.mod.kin J (hK ▸ hm.at_) (hK ▸ hm.fn) (cb pins s σ H [.ref q] [.ref q] Q I (.cons rfl .nil) h)
/-! ### x[k] -/
def cGet (c : Nat) (m : MF) (mds : List Md) (fa fb : EF) : EF := fun G => (fa G).bind fun a G1 => (fb G1).bind fun b G2 => if obC c a G2 = true then runC m mds [a, b] G2 else .bad
theorem tD_get {Q : VK} (hn : mds.length = 2) (h : tD e W (cGet c m mds fa fb) σ H Q) : tD e W fa σ H fun x H1 => tD e W fb σ H1 fun y H2 => InsR e c H2 x ∧ spD e 2 m [x, y] H2 Q (WE W σ) := by
  refine tD_two h fun P G Z0 H0 H a b v u S ta tb st q => ?_
  split at q
  · rename_i hob
    exact ⟨obC_ok S ta hob, runC_ok S (ps := [a, b]) ⟨_, _, rfl, ta, _, _, rfl, tb, rfl⟩ st hn q⟩
  · exact q.elim
theorem fnIn_of {K : PySem.W.Frag} {x qual : Str} {params : Arguments} {body : List Stmt} {scope : Scope} {dvs : List V} {kws : List (Str × V)} {fd : FuncData} (F : FunD K x qual params body scope dvs kws f fd) : PySem.W.fnIn K f = true := by
  obtain ⟨oc, od, dV, kV, doc, pm, an, cdv, ct, osl, rfl, lk, _⟩ := F.ex
  unfold PySem.W.fnIn
  rw [lk]
theorem de_get (B : Bd e X W) (hm : Meth e.K (e.ga c) "__getitem__" f) (hfn : PySem.W.fnIn e.K f = true) (cb : Clb1 X W f (spD e 2 m)) (hn : mds.length = 2) (ha : PE X a (tD e W fa)) (hb : PE X b (tD e W fb)) (hs : ∀ o i, subscripted b true o i = runValue (.builtin "lifetime.subscript" ⟨[o, i], []⟩) := by intro _ _; rfl) :
    PE X (.Subscript a b pos) (tD e W (cGet c m mds fa fb)) := by
  refine ⟨fun pins s σ H Q I h => Subscript_ (binT ha hb I (tD_get hn h) fun v u s2 x y H2 I2 rx ry q => ?_)⟩
  obtain ⟨⟨p, dx, fs, rfl, hx⟩, q⟩ := q
  obtain rfl : v = Value.ref p := rx
  obtain ⟨ox, od, J⟩ := inst_of I2 hx
  obtain ⟨m', hF⟩ := I2.fr
  have hK := B.hK
  exact PySem.W.sub_K hF I2.ok.mod.kin J (hK ▸ hm.at_) (hK ▸ hfn) (hK ▸ hm.fn) (cb pins s2 σ H2 [.ref p, y] [.ref p, u] Q I2 (.cons rfl (.cons ry .nil)) q) (hs _ _)
/-! ### x[k] = v -/
def nxK (r : R PV) : R Ctl := match r with
  | .ok _ G => .ok .nx G
  | .ex c ns ds G => .ex c ns ds G
  | .bad => .bad
def cSetO (c : Nat) (m : MF) (mds : List Md) (fo fk fv : EF) : SF := fun G => (fv G).bind fun pv G1 => (fo G1).bind fun po G2 => (fk G2).bind fun pk G3 => if obC c po G3 = true then nxK (runC m mds [po, pk, pv] G3) else .bad
def gSubO (to ti : TE) (t : L2.St → V → V → V → Hp → (Hp → Prop) → Prop) : TG := fun v σ H Q => to σ H fun o H1 => ti σ H1 fun i H2 => t σ o i v H2 fun H3 => Q σ H3
def PSetO (X : Cx) (t : L2.St → V → V → V → Hp → (Hp → Prop) → Prop) : Prop :=
  ∀ (pins : List (Addr × Obj)) (s : Shared) (σ : L2.St) (H : Hp) (o i v : V) (ov iv u : Value) (Q : Hp → Prop), Inv X pins σ H s → RelV o ov → RelV i iv → RelV v u → t σ o i v H Q →
    wpAny (model X.prog X.w) X.A (setItem ov iv u) (fun _ s' => ∃ H', Inv X pins σ H' s' ∧ Q H') X.xe s
theorem pg_subO {o i : Expr} {to ti : TE} {t : L2.St → V → V → V → Hp → (Hp → Prop) → Prop} (ho : PE X o to) (hi : PE X i ti) (hs : PSetO X t)
    (ha : ∀ v, assign (.Subscript o i pos) X.env v = (do
      let ov ← holding [v] (eval o X.env)
      let iv ← holding [v, ov] (eval i X.env)
      standAt pos
      holding [v, ov, iv] (setItem ov iv v)
      release [v, ov, iv] []) := by intro _; rfl) : PG X (.Subscript o i pos) (gSubO to ti t) := by
  refine ⟨fun pins s σ H v u Q I r h => ?_⟩
  rw [ha]
  refine wpAny_bind (wpAny_holding (thn (ho.run pins s σ H _ I h) fun ov s1 ⟨x, H1, I1, r1, q1⟩ => ?_))
  refine wpAny_bind (wpAny_holding (thn (hi.run pins s1 σ H1 _ I1 q1) fun iv s2 ⟨y, H2, I2, r2, q2⟩ => ?_))
  refine wpAny_bind (wpAny_standAt (wpAny_bind (wpAny_holding (thn (hs pins s2 σ H2 x y v ov iv u _ I2 r1 r2 r q2) fun _ s3 ⟨H3, I3, q3⟩ => ?_))))
  exact wpAny_release ⟨σ, H3, I3, q3⟩
def tSetO (e : Ev) (W : WX) (c : Nat) (m : MF) : L2.St → V → V → V → Hp → (Hp → Prop) → Prop := fun σ o i v H Q => InsR e c H o ∧ spD e 3 m [o, i, v] H (fun _ H' => Q H') (WE W σ)
theorem oo_set (B : Bd e X W) (nq : nsB c e.nm e.K = true) (hm : Meth e.K (e.ga c) "__setitem__" f) (cb : Clb X W f (spD e 3 m)) : PSetO X (tSetO e W c m) := by
  intro pins s σ H o i v ov iv u Q I ro ri rv h
  obtain ⟨⟨q, dx, fs, rfl, hq⟩, h⟩ := h
  obtain rfl : ov = Value.ref q := ro
  obtain ⟨ox, od, J⟩ := inst_of I hq
  obtain ⟨m', hF⟩ := I.fr
  have hK := B.hK
  have nq : PySem.W.noSeq e.K (e.ga c) = true := nq
  refine PySem.W.ksp_setItem hF I.ok.mod.kin J (hK ▸ nq) (hK ▸ hm.at_) (hK ▸ hm.fn) (wpAny_mono (cb pins s σ H [.ref q, i, v] [.ref q, iv, u] _ I (.cons rfl (.cons ri (.cons rv .nil))) h) (fun v' s' z => ?_) fun _ _ x => x)
  obtain ⟨x', H', I', r, q⟩ := z
  exact ⟨H', I', q⟩
theorem ds_setO {o idx v : Expr} {sp : Pos} {fo : EF} (ps : PSetO X (tSetO e W c m)) (hn : mds.length = 3) (ho : PE X o (tD e W fo)) (hf : PE X v (tD e W fv)) (hk : PE X idx (tD e W fk))
    (hx : ∀ v, assign (.Subscript o idx sp) X.env v = (do
      let ov ← holding [v] (eval o X.env)
      let iv ← holding [v, ov] (eval idx X.env)
      standAt sp
      holding [v, ov, iv] (setItem ov iv v)
      release [v, ov, iv] []) := by intro _; rfl)
    (hs : swapsWithSole [.Subscript o idx sp] v pos.line X.env = pure false := by rfl) (hw : swappedStores [.Subscript o idx sp] v X.env = pure none := by rfl)
    (h1 : (assignEach [.Subscript o idx sp] X.env).map (·.2) = [assign (.Subscript o idx sp) X.env] := by rfl) :
    PS X (.Assign [.Subscript o idx sp] v pos) (tS e W (cSetO c m mds fo fk fv)) :=
  (ps_asg hf (pg_subO ho hk ps hx) hs hw h1).imp fun D σ H h => by
    obtain ⟨P, G, S, h⟩ := h
    refine PostS.bindD S h fun pv G1 v H1 r q => ?_
    obtain ⟨S1, st1, t1⟩ := r.tmp
    refine PostS.bindD_at S1 st1 q fun po G2 o H2 r2 q => ?_
    obtain ⟨S2, st2, t2⟩ := r2.tmp
    refine PostS.bindD_at S2 (st1.trans st2) q fun pk G3 k H3 r3 q => ?_
    obtain ⟨S3, st3, t3⟩ := r3.tmp
    split at q
    · rename_i hob
      refine ⟨obC_ok S3 (t2.step st3) hob, runC_ok S3 (ps := [po, pk, pv]) ⟨_, _, rfl, t2.step st3, _, _, rfl, t3, _, _, rfl, (t1.step st2).step st3, rfl⟩ ((st1.trans st2).trans st3) hn ?_⟩
      cases hr : runC m mds [po, pk, pv] G3 with
      | bad => rw [hr] at q; exact q.elim
      | ex c ns es G4 => rw [hr] at q; exact fun cls dx H4 S4 st4 r => q cls dx σ H4 S4 st4 r
      | ok pv' G4 =>
        rw [hr] at q
        intro v' H4 r4
        obtain ⟨S4, st4, _⟩ := r4.tmp
        exact q σ H4 S4 st4
    · exact q.elim
end
section
variable {G : List Sl} {c : Nat} {m : MF} {mds : List Md} {fa fb fo fk fv : EF}
@[simp] theorem cGet_ap : cGet c m mds fa fb G = (fa G).bind fun a G1 => (fb G1).bind fun b G2 => if obC c a G2 = true then runC m mds [a, b] G2 else .bad := rfl
@[simp] theorem cSetO_ap : cSetO c m mds fo fk fv G = (fv G).bind fun pv G1 => (fo G1).bind fun po G2 => (fk G2).bind fun pk G3 => if obC c po G3 = true then nxK (runC m mds [po, pk, pv] G3) else .bad := rfl
@[simp] theorem nxK_ok {pv : PV} : nxK (.ok pv G) = .ok .nx G := rfl
@[simp] theorem nxK_ex {ns : List Nat} {ds : List D} : nxK (.ex c ns ds G) = .ex c ns ds G := rfl
@[simp] theorem nxK_bad : nxK .bad = .bad := rfl
@[simp] theorem nxK_ite {p : Prop} [Decidable p] {x y : R PV} : nxK (if p then x else y) = if p then nxK x else nxK y := by split <;> rfl
end
end PD

/-! PD41: x[::-1] of a list or a text -/
namespace PD
open PySem PySem.Spec L2 L2H PyProof.Rows
def revS (x : Str) : Str := ⟨x.cps.toList.reverse.toArray⟩
theorem sliceBy_rev (x : Str) (u : Tok) : Txt.sliceBy x none none (-1, u) = revS x := by
  refine Str.ext' (Array.toList_inj.mp ?_)
  rw [step_rev_list]
  show _ = x.cps.toList.reverse
  apply List.ext_getElem?
  intro i
  by_cases hi : i < x.length
  · have hi' : i < x.cps.toList.length := by simpa [Str.length] using hi
    rw [List.getElem?_map, List.getElem?_range hi, List.getElem?_reverse hi']
    have hs : x.length = x.cps.size := rfl
    have h2 : x.cps.size - 1 - i < x.cps.size := by omega
    simp [Array.getD, hs, h2]
  · rw [List.getElem?_eq_none (by simpa using hi), List.getElem?_eq_none (by simpa [Str.length] using hi)]
def tRev (K : PySem.W.Frag) (te : TE) : TE := fun σ H Q => te σ H fun x H1 => (∃ a xs, x = .ref a ∧ SqL K H1 a xs ∧ ∀ p, H1 p = none → Q (.ref p) (upd H1 p (.lst xs.reverse))) ∨ ∃ z, x = .str z ∧ z.length ≤ sizeLine ∧ Q (.str (revS z)) H1
section
variable {X : Cx}
theorem pe_rev {e : Expr} {te : TE} {k : Nat} {p1 p2 p3 pos : Pos} (he : PE X e te) : PE X (.Subscript e (.Slice none none (some (.UnaryOp .USub (.Constant (.int 1) k p1) p2)) p3) pos) (tRev X.K te) := by
  refine ⟨fun pins s σ H Q I h => ?_⟩
  refine Subscript_ (thn (he.run pins s σ H _ I h) fun v s1 ⟨x, H1, I1, r1, q1⟩ => ?_)
  have hst : PO X (some (.UnaryOp .USub (.Constant (.int 1) k p1) p2)) (tPart (tUn (rU fun i => .int (-i)) (tC (.int 1)))) := po_some (pe_un un_neg pe_int)
  refine wpAny_Slice (thn (po_none.run pins s1 σ H1 (fun o H2 => o = none ∧ H2 = H1) I1 ⟨rfl, rfl⟩) fun vl s2 ⟨l, H2, I2, pl, el, e2⟩ => ?_)
  subst el e2
  refine thn (po_none.run pins s2 σ H2 (fun o H3 => o = none ∧ H3 = H2) I2 ⟨rfl, rfl⟩) fun vu s3 ⟨u, H3, I3, pu, eu, e3⟩ => ?_
  subst eu e3
  refine thn (hst.run pins s3 σ H3 (fun o H4 => o = some (-1) ∧ H4 = H3) I3 ⟨1, rfl, -1, rfl, rfl, rfl⟩) fun vs s4 ⟨o, H4, I4, ps, eo, e4⟩ => ?_
  subst eo e4
  have I5 : Inv X pins σ H4 { s4 with heap := s4.heap.push { cls := .type "slice", data := .fields #[vl, vu, vs] } } := I4.kept (t' := s4.toks) fun b ob q => Heap.get?_push_of_some _ q
  rcases q1 with ⟨a, xs, ex, hx, q⟩ | ⟨z, ex, hz, q⟩
  · subst ex
    cases r1
    obtain ⟨its, r, ht, hz⟩ := I5.list hx
    have hlen := r.length
    show wpAny (model X.prog X.w) X.A (subscriptTail e (.Slice none none (some (.UnaryOp .USub (.Constant (.int 1) k p1) p2)) p3) (.ref a) (.ref s4.heap.objs.size)) (EP X pins σ Q) X.xe { s4 with heap := s4.heap.push { cls := .type "slice", data := .fields #[vl, vu, vs] } }
    refine tail_any (ops := [.ref a, .ref s4.heap.objs.size]) ht.isList.typeIs (PySem.slot_list_getitem.lookup) ?_ (by with_unfolding_all rfl)
    refine wpAny_getItem_list_slice ht.isList (Heap.IsSliceOf.new _ vl vu vs) pl pu ps (by decide) ?_ (by rw [List.size_toArray]; omega)
    rw [PySem.W.krv_pick]
    refine ⟨.ref _, _, I5.laid (t' := s4.toks) (o := .lst xs.reverse) (fun b ob q => Heap.get?_push_of_some _ q) (Nat.le_refl _) ?_, rfl, q _ (I5.hok.fresh (Nat.le_refl _))⟩
    exact ⟨by rw [List.length_reverse]; exact hz, _, 0, r.reverse, Heap.get?_push_size _ rfl⟩
  · subst ex
    obtain ⟨t, rfl⟩ := r1
    obtain ⟨l, rfl, e1⟩ := IsPart.raw pl
    obtain ⟨u, rfl, e2⟩ := IsPart.raw pu
    obtain ⟨st, rfl, e3⟩ := IsPart.raw ps
    cases l with
    | some l => cases e1
    | none =>
      cases u with
      | some u => cases e2
      | none =>
        cases st with
        | none => cases e3
        | some st =>
          obtain ⟨i, ti⟩ := st
          cases e3
          show wpAny (model X.prog X.w) X.A (subscriptTail e (.Slice none none (some (.UnaryOp .USub (.Constant (.int 1) k p1) p2)) p3) (.str z t) (.ref s4.heap.objs.size)) (EP X pins σ Q) X.xe _
          refine tail_any (ops := [.str z t, .ref s4.heap.objs.size]) (typeIs_str _ _ _) F.slot_str_getitem.lookup ?_ (by with_unfolding_all rfl)
          refine wpAny_getItem_str_slice (l := none) (u := none) (st := some (-1, ti)) ⟨_, Heap.get?_push_size _ rfl, rfl, rfl⟩ rfl ?_
          have hr := sliceBy_rev z ti
          have hm : sliceMade z t none none (some (-1, ti)) = .str (revS z) := by
            rw [← hr]
            unfold sliceMade Txt.sliceBy
            have : ((((some ((-1 : Int), ti)).map (·.1)).getD 1 == 1)) = false := rfl
            simp [this]
          rw [hm]
          exact ⟨by show z.cps.toList.reverse.toArray.size ≤ sizeLine; rw [List.size_toArray, List.length_reverse, Array.length_toList]; exact hz, .str _, H4, I5.tok _, ⟨_, rfl⟩, q⟩
end
def cRev (fo : EF) : EF := fun G => (fo G).bind fun p G1 => match peek p G1 with
  | some (.lst xs) => .ok (.fr (.lst xs.reverse)) G1
  | some (.fz xs) => .ok (.fr (.lst xs.reverse)) G1
  | some (.str z) => if z.length ≤ 16777216 then .ok (.val (.str (revS z))) G1 else .bad
  | _ => .bad
section
variable {e : Ev} {W : WX} {X : Cx} {a : Expr} {fo : EF} {pos : Pos}
theorem de_rev {k : Nat} {p1 p2 p3 : Pos} (hK : X.K = e.K) (ha : PE X a (tD e W fo)) : PE X (.Subscript a (.Slice none none (some (.UnaryOp .USub (.Constant (.int 1) k p1) p2)) p3) pos) (tD e W (cRev fo)) := (pe_rev ha).imp fun σ H Q h => by
  refine tD_then h fun P G Z0 H0 H1 p v r q => ?_
  obtain ⟨S, st, t⟩ := r.tmp
  split at q
  · rename_i xs hp
    obtain ⟨a, vs, rfl, h1, h2⟩ := (peek_ok S t hp).lst
    exact .inl ⟨a, vs, rfl, SqL.of h1, fun p hp => q _ _ (((Out.newL hp h2.reverse).res S).from_ st)⟩
  · rename_i xs hp
    obtain ⟨a, vs, rfl, h1, h2⟩ := (peek_ok S t hp).fz
    exact .inl ⟨a, vs, rfl, hK ▸ h1, fun p hp => q _ _ (((Out.newL hp h2.reverse).res S).from_ st)⟩
  · rename_i z hp
    cases (peek_ok S t hp).str
    split at q
    · rename_i hz
      exact .inr ⟨z, rfl, hz, q _ _ (((Out.scal fun _ _ => rfl : Out e _ _ (.val (.str (revS z))) _ _).res S).from_ st)⟩
    · exact q.elim
  · exact q.elim
@[simp] theorem cRev_ap {G : List Sl} : cRev fo G = (fo G).bind fun p G1 => match peek p G1 with
  | some (.lst xs) => .ok (.fr (.lst xs.reverse)) G1
  | some (.fz xs) => .ok (.fr (.lst xs.reverse)) G1
  | some (.str z) => if z.length ≤ 16777216 then .ok (.val (.str (revS z))) G1 else .bad
  | _ => .bad := rfl
end
end PD

/-! PD42: for the plain laws: names' slots, comprehensions, loops, texts -/
namespace PD
open PySem PySem.Spec L2 L2H
theorem map_of {α : Type} {f : α → D} {P : α → Prop} : ∀ {ds : List D}, (∀ d ∈ ds, ∃ a, d = f a ∧ P a) → ∃ as : List α, ds = as.map f ∧ ∀ a ∈ as, P a
  | [], _ => ⟨[], rfl, fun _ h => by cases h⟩
  | d :: ds, h => by
    obtain ⟨a, rfl, ha⟩ := h d List.mem_cons_self
    obtain ⟨as, rfl, has⟩ := map_of (ds := ds) fun d hd => h d (List.mem_cons_of_mem _ hd)
    exact ⟨a :: as, rfl, fun x hx => by
      rcases List.mem_cons.mp hx with rfl | hx
      · exact ha
      · exact has x hx⟩
/-! ### slots of names -/
def Nb (y : Sl) : Prop := y = .no ∨ ∃ d, y = .imm d
theorem Nb.no : Nb .no := .inl rfl
theorem Nb.imm {d : D} : Nb (.imm d) := .inr ⟨d, rfl⟩
theorem Nb.lnd {y : Sl} (h : Nb y) : isLnd y = false := by rcases h with rfl | ⟨_, rfl⟩ <;> rfl
theorem Nb.pl {y : Sl} (h : Nb y) : plS y = true := by rcases h with rfl | ⟨_, rfl⟩ <;> rfl
theorem gN_nb {v : Nat} {d : D} {G : List Sl} {s0 : Sl} (hs : G[v]? = some s0) (hn : Nb s0) : gN v d G = some (G.set v (.imm d)) := by
  rw [gN_ap, put_ap, hs]
  simp [hn.lnd]
/-- a loop that changes its name alone -/
theorem fLoop_pure {v : Nat} {b : SF} : ∀ {ds : List D} {G : List Sl} {s0 : Sl}, G[v]? = some s0 → Nb s0 → (∀ d ∈ ds, ∃ c, b (G.set v (.imm d)) = .ok c (G.set v (.imm d)) ∧ (c = .nx ∨ c = .ct)) → ∃ s, Nb s ∧ fLoop (gN v) b ds G = .ok .nx (G.set v s)
  | [], G, s0, hs, hn, _ => ⟨s0, hn, by
    have : G.set v s0 = G := by
      obtain ⟨h1, h2⟩ := List.getElem?_eq_some_iff.mp hs
      rw [← h2]; exact List.set_getElem_self h1
    rw [this]; rfl⟩
  | d :: ds, G, s0, hs, hn, h => by
    have hlt := (List.getElem?_eq_some_iff.mp hs).1
    obtain ⟨c, h1, hc⟩ := h d List.mem_cons_self
    obtain ⟨s, h2, h3⟩ := fLoop_pure (b := b) (ds := ds) (G := G.set v (.imm d)) (s0 := .imm d) (by rw [List.getElem?_set_self hlt]) .imm (fun d' hd => by
      rw [List.set_set]
      exact h d' (List.mem_cons_of_mem _ hd))
    rw [List.set_set] at h3
    refine ⟨s, h2, ?_⟩
    rw [fLoop_cons, gN_nb hs hn]
    dsimp only
    rw [h1]
    rcases hc with rfl | rfl <;> exact h3
/-- .. and ends at the first that leaves -/
theorem fLoop_find {v : Nat} {b : SF} : ∀ {ds : List D} {G : List Sl} {s0 : Sl} {i : Nat} {d : D} {r : R Ctl}, G[v]? = some s0 → Nb s0 → ds[i]? = some d → (∀ j < i, ∀ d, ds[j]? = some d → ∃ c, b (G.set v (.imm d)) = .ok c (G.set v (.imm d)) ∧ (c = .nx ∨ c = .ct)) →
    b (G.set v (.imm d)) = r → (∀ G', r ≠ .ok .nx G') → (∀ G', r ≠ .ok .ct G') → (∀ G', r ≠ .ok .brk G') → fLoop (gN v) b ds G = r
  | [], _, _, _, _, _, _, _, hd, _, _, _, _, _ => by simp at hd
  | d0 :: ds, G, s0, 0, d, r, hs, hn, hd, _, h, n1, n2, n3 => by
    simp at hd
    subst hd
    rw [fLoop_cons, gN_nb hs hn]
    dsimp only
    rw [h]
    cases r with
    | bad => rfl
    | ex c ns es G' => rfl
    | ok c G' =>
      cases c with
      | nx => exact absurd rfl (n1 G')
      | ct => exact absurd rfl (n2 G')
      | brk => exact absurd rfl (n3 G')
      | ret pv => rfl
  | d0 :: ds, G, s0, i + 1, d, r, hs, hn, hd, hj, h, n1, n2, n3 => by
    have hlt := (List.getElem?_eq_some_iff.mp hs).1
    obtain ⟨c, h1, hc⟩ := hj 0 (Nat.succ_pos i) d0 rfl
    have ih := fLoop_find (b := b) (ds := ds) (G := G.set v (.imm d0)) (s0 := .imm d0) (i := i) (d := d) (r := r) (by rw [List.getElem?_set_self hlt]) .imm (by simpa using hd) (fun j hj' d' hd' => by
      rw [List.set_set]
      exact hj (j + 1) (by omega) d' (by simpa using hd')) (by rw [List.set_set]; exact h) n1 n2 n3
    rw [fLoop_cons, gN_nb hs hn]
    dsimp only
    rw [h1]
    rcases hc with rfl | rfl <;> exact ih
/-! ### comprehensions -/
def escV : PV → Option D
  | .val d => some d
  | .fr d => some d
  | .sl _ => none
@[simp] theorem escV_val {d : D} : escV (.val d) = some d := rfl
@[simp] theorem escV_fr {d : D} : escV (.fr d) = some d := rfl
theorem escV_esc {pv : PV} {d : D} {G : List Sl} (h : escV pv = some d) : esc pv G = some (d, G) := by
  cases pv with
  | val => cases h; rfl
  | fr => cases h; rfl
  | sl => cases h
/-- one that reads alone -/
theorem cLC_gen {src : F (List D)} {vs : List Nat} {g : GF} {t : TF} {f : EF} {G G1 : List Sl} {ds : List D} (st : D → List Sl) (p : D → Bool) (F : D → D) (h1 : src G = .ok ds G1) (hw : okW G1 vs = true) (hl : ds.length < 1000000)
    (hg : ∀ d ∈ ds, g d (wipeG G1 vs) = some (st d)) (hwi : ∀ d ∈ ds, wipeG (st d) vs = wipeG G1 vs) (ht : ∀ d ∈ ds, t (st d) = .ok (p d) (st d)) (hf : ∀ d ∈ ds, p d = true → ∃ pv, f (st d) = .ok pv (st d) ∧ escV pv = some (F d)) (hr : resG G1 (wipeG G1 vs) vs = G1) :
    cLC src vs g t f G = .ok (.fr (.lst ((ds.filter p).map F))) G1 := by
  have main : ∀ (es acc : List D) (Gi : List Sl), (∀ d ∈ es, d ∈ ds) → acc.length + es.length < 1000000 → wipeG Gi vs = wipeG G1 vs → ∃ Gj, lcGo vs g t f es acc Gi = .ok (acc ++ (es.filter p).map F) Gj ∧ wipeG Gj vs = wipeG G1 vs := by
    intro es
    induction es with
    | nil => intro acc Gi _ _ hGi; exact ⟨Gi, by simp [lcGo], hGi⟩
    | cons d es ih =>
      intro acc Gi hm hlen hGi
      have hd := hm d List.mem_cons_self
      have hm' : ∀ d ∈ es, d ∈ ds := fun d' h' => hm d' (List.mem_cons_of_mem _ h')
      have hlen' : acc.length + (es.length + 1) < 1000000 := by simpa using hlen
      unfold lcGo
      rw [hGi, hg d hd]
      dsimp only
      rw [ht d hd]
      simp only [noEx_ok, R.bind_ok]
      cases hp : p d with
      | false =>
        obtain ⟨Gj, e1, e2⟩ := ih acc (st d) hm' (by omega) (hwi d hd)
        refine ⟨Gj, ?_, e2⟩
        rw [List.filter_cons, hp]
        simpa using e1
      | true =>
        obtain ⟨pv, e3, e4⟩ := hf d hd hp
        obtain ⟨Gj, e1, e2⟩ := ih (acc ++ [F d]) (st d) hm' (by simp; omega) (hwi d hd)
        refine ⟨Gj, ?_, e2⟩
        rw [List.filter_cons, hp, e3]
        simp only [noEx_ok, R.bind_ok, if_true, escV_esc e4, if_pos (show acc.length < 1000000 by omega)]
        rw [e1]
        simp
  obtain ⟨Gj, e1, e2⟩ := main ds [] G1 (fun _ h => h) (by simpa using hl) rfl
  rw [cLC_ap, h1]
  simp only [R.bind_ok, if_pos hw, e1]
  rw [e2, hr]
  simp
theorem set_same {α : Type} {G : List α} {v : Nat} {s0 : α} (hs : G[v]? = some s0) : G.set v s0 = G := by
  obtain ⟨h1, h2⟩ := List.getElem?_eq_some_iff.mp hs
  rw [← h2]; exact List.set_getElem_self h1
theorem okW_one {v : Nat} {G : List Sl} {s0 : Sl} (hs : G[v]? = some s0) (hn : Nb s0) : okW G [v] = true := by
  unfold okW
  simp [hs, hn.pl]
/-- one name, no test -/
theorem cLC_map {src : F (List D)} {v : Nat} {f : EF} {G G1 : List Sl} {ds : List D} {s0 : Sl} (F : D → D) (h1 : src G = .ok ds G1) (hs : G1[v]? = some s0) (hn : Nb s0) (hl : ds.length < 1000000) (hf : ∀ d ∈ ds, ∃ pv, f (G1.set v (.imm d)) = .ok pv (G1.set v (.imm d)) ∧ escV pv = some (F d)) :
    cLC src [v] (gN v) tYesD f G = .ok (.fr (.lst (ds.map F))) G1 := by
  have hlt := (List.getElem?_eq_some_iff.mp hs).1
  have := cLC_gen (src := src) (vs := [v]) (g := gN v) (t := tYesD) (f := f) (G := G) (G1 := G1) (ds := ds) (fun d => G1.set v (.imm d)) (fun _ => true) F h1 (okW_one hs hn) hl (fun d _ => by
    show gN v d (G1.set v .no) = _
    rw [gN_nb (s0 := .no) (by rw [List.getElem?_set_self hlt]) .no, List.set_set]) (fun d _ => by
    show (G1.set v (.imm d)).set v .no = G1.set v .no
    rw [List.set_set]) (fun d _ => rfl) (fun d hd _ => hf d hd) (by
    show (G1.set v .no).set v ((G1[v]?).getD .no) = G1
    rw [List.set_set, hs]
    exact set_same hs)
  rw [this, List.filter_eq_self.mpr fun _ _ => rfl]
/-- one name, a test -/
theorem cLC_filter {src : F (List D)} {v : Nat} {t : TF} {f : EF} {G G1 : List Sl} {ds : List D} {s0 : Sl} (p : D → Bool) (F : D → D) (h1 : src G = .ok ds G1) (hs : G1[v]? = some s0) (hn : Nb s0) (hl : ds.length < 1000000) (ht : ∀ d ∈ ds, t (G1.set v (.imm d)) = .ok (p d) (G1.set v (.imm d))) (hf : ∀ d ∈ ds, p d = true → ∃ pv, f (G1.set v (.imm d)) = .ok pv (G1.set v (.imm d)) ∧ escV pv = some (F d)) :
    cLC src [v] (gN v) t f G = .ok (.fr (.lst ((ds.filter p).map F))) G1 := by
  have hlt := (List.getElem?_eq_some_iff.mp hs).1
  exact cLC_gen (src := src) (vs := [v]) (g := gN v) (t := t) (f := f) (G := G) (G1 := G1) (ds := ds) (fun d => G1.set v (.imm d)) p F h1 (okW_one hs hn) hl (fun d _ => by
    show gN v d (G1.set v .no) = _
    rw [gN_nb (s0 := .no) (by rw [List.getElem?_set_self hlt]) .no, List.set_set]) (fun d _ => by
    show (G1.set v (.imm d)).set v .no = G1.set v .no
    rw [List.set_set]) ht hf (by
    show (G1.set v .no).set v ((G1[v]?).getD .no) = G1
    rw [List.set_set, hs]
    exact set_same hs)
/-- one that changes one slot besides (draws) -/
theorem cLC_st {src : F (List D)} {v i : Nat} {f : EF} {G G1 : List Sl} {ds : List D} {s0 : Sl} {I : Sl → Prop} {P : D → Prop} {si : Sl} (h1 : src G = .ok ds G1) (hs : G1[v]? = some s0) (hn : Nb s0) (hi : G1[i]? = some si) (hv : i ≠ v) (h0 : I si) (hl : ds.length < 1000000)
    (hf : ∀ d ∈ ds, ∀ s, I s → ∃ pv x s', f ((G1.set i s).set v (.imm d)) = .ok pv ((G1.set i s').set v (.imm d)) ∧ escV pv = some x ∧ I s' ∧ P x) :
    ∃ xs s', cLC src [v] (gN v) tYesD f G = .ok (.fr (.lst xs)) (G1.set i s') ∧ xs.length = ds.length ∧ (∀ x ∈ xs, P x) ∧ I s' := by
  have hlt := (List.getElem?_eq_some_iff.mp hs).1
  have main : ∀ (es acc : List D) (s : Sl) (y : Sl), (∀ d ∈ es, d ∈ ds) → I s → acc.length + es.length < 1000000 → ∃ xs s' y', lcGo [v] (gN v) tYesD f es acc ((G1.set i s).set v y) = .ok (acc ++ xs) ((G1.set i s').set v y') ∧ xs.length = es.length ∧ (∀ x ∈ xs, P x) ∧ I s' := by
    intro es
    induction es with
    | nil => intro acc s y _ hI _; exact ⟨[], s, y, by simp [lcGo], rfl, (fun _ h => by cases h), hI⟩
    | cons d es ih =>
      intro acc s y hm hI hlen
      have hlen' : acc.length + (es.length + 1) < 1000000 := by simpa using hlen
      obtain ⟨pv, x, s', e1, e2, e3, e4⟩ := hf d (hm d List.mem_cons_self) s hI
      obtain ⟨xs, s2, y2, k1, k2, k3, k4⟩ := ih (acc ++ [x]) s' (.imm d) (fun d' h' => hm d' (List.mem_cons_of_mem _ h')) e3 (by simp; omega)
      refine ⟨x :: xs, s2, y2, ?_, by simp [k2], (fun z hz => by
        rcases List.mem_cons.mp hz with rfl | hz
        · exact e4
        · exact k3 z hz), k4⟩
      have hg : gN v d (wipeG ((G1.set i s).set v y) [v]) = some ((G1.set i s).set v (.imm d)) := by
        show gN v d (((G1.set i s).set v y).set v .no) = _
        rw [gN_nb (s0 := .no) (by rw [List.set_set, List.getElem?_set_self (by simpa using hlt)]) .no, List.set_set, List.set_set]
      unfold lcGo
      rw [hg]
      dsimp only
      simp only [tYesD_ap, noEx_ok, R.bind_ok, if_true, e1, escV_esc e2, if_pos (show acc.length < 1000000 by omega)]
      rw [k1]
      simp
  obtain ⟨xs, s', y', k1, k2, k3, k4⟩ := main ds [] si s0 (fun _ h => h) h0 (by simpa using hl)
  rw [set_same hi, set_same hs] at k1
  refine ⟨xs, s', ?_, k2, k3, k4⟩
  rw [cLC_ap, h1]
  simp only [R.bind_ok, if_pos (okW_one hs hn), k1]
  show R.ok (PV.fr (D.lst ([] ++ xs))) (resG G1 ((((G1.set i s').set v y').set v .no)) [v]) = _
  have : resG G1 ((((G1.set i s').set v y').set v .no)) [v] = G1.set i s' := by
    show ((((G1.set i s').set v y').set v .no)).set v ((G1[v]?).getD .no) = _
    rw [List.set_set, List.set_set, hs]
    exact set_same (by rw [Option.getD_some, List.getElem?_set_ne hv]; exact hs)
  rw [this]
  rfl
/-! ### lists of texts, of numbers -/
theorem toPys_str : ∀ {ys : List Str}, toPys (ys.map D.str) = ys.map PyData.str
  | [] => rfl
  | y :: ys => by
    show toPy (.str y) :: toPys (ys.map D.str) = _
    rw [toPys_str]; rfl
theorem plain_strs : ∀ {ys : List Str}, PyData.plainAll (ys.map PyData.str) = true
  | [] => rfl
  | y :: ys => by simp [PyData.plainAll, PyData.plain, plain_strs]
theorem any_strs {x : Str} : ∀ {ys : List Str}, ((ys.map PyData.str).any fun y => PyData.eqv y (.str x)) = decide (x ∈ ys)
  | [] => rfl
  | y :: ys => by
    simp only [List.map_cons, List.any_cons, any_strs, PyData.eqv]
    by_cases h : x = y
    · subst h; simp
    · have : ¬ y = x := fun z => h z.symm
      simp [h, this]
theorem kIn_lstr {neg : Bool} {x : Str} {ys : List Str} : kIn neg (.str x) (.lst (ys.map D.str)) = some (.val (.bl (neg != decide (x ∈ ys)))) := by
  have h : kIn neg (.str x) (.lst (ys.map D.str)) = if (toPy (.str x)).plain = true ∧ PyData.plainAll (toPys (ys.map D.str)) = true ∧ min (PyData.depthAll (toPys (ys.map D.str))) (toPy (.str x)).depth ≤ 60 then some (.val (.bl (neg != (toPys (ys.map D.str)).any fun y => PyData.eqv y (toPy (.str x))))) else none := rfl
  rw [h, toPys_str, if_pos ⟨rfl, plain_strs, by simp [toPy, PyData.depth]⟩]
  show some (PV.val (.bl (neg != (ys.map PyData.str).any fun y => PyData.eqv y (.str x)))) = _
  rw [any_strs]
theorem kIn_tstr {neg : Bool} {x : Str} {ys : List Str} : kIn neg (.str x) (.tup (ys.map D.str)) = some (.val (.bl (neg != decide (x ∈ ys)))) := by
  have h : kIn neg (.str x) (.tup (ys.map D.str)) = if (toPy (.str x)).plain = true ∧ PyData.plainAll (toPys (ys.map D.str)) = true ∧ min (PyData.depthAll (toPys (ys.map D.str))) (toPy (.str x)).depth ≤ 60 then some (.val (.bl (neg != (toPys (ys.map D.str)).any fun y => PyData.eqv y (toPy (.str x))))) else none := rfl
  rw [h, toPys_str, if_pos ⟨rfl, plain_strs, by simp [toPy, PyData.depth]⟩]
  show some (PV.val (.bl (neg != (ys.map PyData.str).any fun y => PyData.eqv y (.str x)))) = _
  rw [any_strs]
theorem strsD_map : ∀ {ys : List Str}, strsD (ys.map D.str) = some ys
  | [] => rfl
  | y :: ys => by
    show (strsD (ys.map D.str)).map (y :: ·) = _
    rw [strsD_map]; rfl
theorem eqvAll_strs : ∀ {xs ys : List Str}, PyData.eqvAll (xs.map PyData.str) (ys.map PyData.str) = decide (xs = ys)
  | [], [] => by simp [PyData.eqvAll]
  | [], _ :: _ => by simp [PyData.eqvAll]
  | _ :: _, [] => by simp [PyData.eqvAll]
  | x :: xs, y :: ys => by
    simp only [List.map_cons, PyData.eqvAll, eqvAll_strs, PyData.eqv]
    by_cases h : x = y
    · subst h; simp
    · simp [h]
theorem depth_strs : ∀ {ys : List Str}, PyData.depthAll (ys.map PyData.str) ≤ 1
  | [] => by simp [PyData.depthAll]
  | y :: ys => by
    have := depth_strs (ys := ys)
    simp only [List.map_cons, PyData.depthAll, PyData.depth]
    omega
theorem kEq_strs {xs ys : List Str} : kEq (.lst (xs.map D.str)) (.lst (ys.map D.str)) = some (.val (.bl (decide (xs = ys)))) := by
  have p1 : ∀ {ps : List Str}, (toPy (.lst (ps.map D.str))).plain = true := fun {ps} => by
    show PyData.plain (.list (toPys (ps.map D.str))) = true
    rw [PyData.plain, toPys_str]; exact plain_strs
  have p2 : ∀ {ps : List Str}, (toPy (.lst (ps.map D.str))).depth ≤ 3 := fun {ps} => by
    show PyData.depth (.list (toPys (ps.map D.str))) ≤ 3
    rw [PyData.depth, toPys_str]
    have := depth_strs (ys := ps)
    omega
  have a1 := p2 (ps := xs)
  unfold kEq
  rw [if_pos ⟨p1, p1, by omega⟩]
  show some (PV.val (.bl (PyData.eqv (.list (toPys (xs.map D.str))) (.list (toPys (ys.map D.str)))))) = _
  rw [PyData.eqv, toPys_str, toPys_str, eqvAll_strs]
theorem toPys_int : ∀ {ys : List Int}, toPys (ys.map D.int) = ys.map PyData.int
  | [] => rfl
  | y :: ys => by
    show toPy (.int y) :: toPys (ys.map D.int) = _
    rw [toPys_int]; rfl
theorem plain_ints : ∀ {ys : List Int}, PyData.plainAll (ys.map PyData.int) = true
  | [] => rfl
  | y :: ys => by simp [PyData.plainAll, PyData.plain, plain_ints]
theorem any_ints {x : Int} : ∀ {ys : List Int}, ((ys.map PyData.int).any fun y => PyData.eqv y (.int x)) = decide (x ∈ ys)
  | [] => rfl
  | y :: ys => by
    simp only [List.map_cons, List.any_cons, any_ints, PyData.eqv]
    by_cases h : x = y
    · subst h; simp
    · have : ¬ y = x := fun z => h z.symm
      simp [h, this]
theorem kIn_ints {neg : Bool} {x : Int} {ys : List Int} : kIn neg (.int x) (.lst (ys.map D.int)) = some (.val (.bl (neg != decide (x ∈ ys)))) := by
  have h : kIn neg (.int x) (.lst (ys.map D.int)) = if (toPy (.int x)).plain = true ∧ PyData.plainAll (toPys (ys.map D.int)) = true ∧ min (PyData.depthAll (toPys (ys.map D.int))) (toPy (.int x)).depth ≤ 60 then some (.val (.bl (neg != (toPys (ys.map D.int)).any fun y => PyData.eqv y (toPy (.int x))))) else none := rfl
  rw [h, toPys_int, if_pos ⟨rfl, plain_ints, by simp [toPy, PyData.depth]⟩]
  show some (PV.val (.bl (neg != (ys.map PyData.int).any fun y => PyData.eqv y (.int x)))) = _
  rw [any_ints]
/-! ### texts -/
theorem szl : sizeLine = 16777216 := rfl
theorem tl_len {s : Str} : s.length = (TL.tl s).length := rfl
theorem empty_iff {x : Str} : (x = ("" : Str)) = (TL.tl x = []) := by
  refine propext ⟨fun h => by subst h; rfl, fun h => TL.ext_tl h⟩
open PySem.NumText (AllDigits digitsVal)
theorem numL_head : ∀ (k n : Nat), n ≤ k → 10 ≤ n → (TL.numL n).head? ≠ some 48
  | 0, n, h, h2 => by omega
  | k + 1, n, h, h2 => by
    rw [TL.numL_step h2]
    have hne := TL.numL_ne (n / 10)
    rw [List.head?_append]
    by_cases h3 : n / 10 < 10
    · rw [TL.numL_lt h3]
      simp
      omega
    · have ih := numL_head k (n / 10) (by omega) (by omega)
      cases hq : (TL.numL (n / 10)).head? with
      | none => exact absurd (List.head?_eq_none_iff.mp hq) hne
      | some c => rw [hq] at ih; simpa using ih
theorem tl_itx (n : Nat) : TL.tl (itx (n : Int)) = TL.numL n := TL.tl_num n
theorem numL_wf {n : Nat} (h : n < 10000000000000) : Wf (TL.numL n) := by
  refine ⟨TL.numL_ne n, TL.numL_len (by decide) h, fun ⟨h1, h2⟩ => ?_, TL.numL_digits n⟩
  by_cases h3 : n < 10
  · rw [TL.numL_lt h3] at h1; simp at h1
  · exact numL_head n n (Nat.le_refl _) (by omega) h2
theorem num_numL {n : Nat} (h : n < 10000000000000) : num (TL.numL n) = n := by
  unfold num
  rw [if_pos (numL_wf h), TL.numL_val]
theorem num_itx {n : Int} (h0 : 0 ≤ n) (h : n < 10000000000000) : num (TL.tl (itx n)) = n := by
  obtain ⟨k, rfl⟩ := Int.eq_ofNat_of_zero_le h0
  rw [tl_itx]
  exact num_numL (by omega)
theorem itx_dig {n : Int} (h0 : 0 ≤ n) : AllDigits (TL.tl (itx n)) := by
  obtain ⟨k, rfl⟩ := Int.eq_ofNat_of_zero_le h0
  rw [tl_itx]
  exact TL.numL_digits k
theorem itx_ne {n : Int} (h0 : 0 ≤ n) : TL.tl (itx n) ≠ [] := by
  obtain ⟨k, rfl⟩ := Int.eq_ofNat_of_zero_le h0
  rw [tl_itx]
  exact TL.numL_ne k
theorem itx_free {n : Int} {c : Nat} (h0 : 0 ≤ n) (hc : c < 48 ∨ 57 < c) : c ∉ TL.tl (itx n) := fun h => by
  have := itx_dig h0 c h
  omega
theorem num_wf {l : List Nat} (h : 0 ≤ num l) : Wf l := by
  unfold num at h
  split at h
  · assumption
  · omega
theorem num_none {l : List Nat} (h : ¬ 0 ≤ num l) : num l = -1 := by
  unfold num at *
  split
  · rename_i h2; rw [if_pos h2] at h; omega
  · rfl
theorem itx_num {l : List Nat} (h : Wf l) : TL.tl (itx (num l)) = l := by
  rw [show num l = (digitsVal l : Nat) from if_pos h]
  exact text_num h
/-- the parts of a text are no longer than it -/
theorem split_len {y : Str} {c : Nat} (hy : TL.tl y = [c]) (hk : y.cps.all (· < 256) = true) : ∀ (n : Nat) (x : Str), x.length ≤ n → (∀ p ∈ Txt.split x y, p.length ≤ x.length) ∧ (Txt.split x y).length ≤ x.length + 1 ∧ (∀ p ∈ Txt.split x y, ∀ k ∈ TL.tl p, k ∈ TL.tl x) ∧ ∀ p ∈ Txt.split x y, c ∉ TL.tl p := by
  intro n
  induction n with
  | zero =>
    intro x hx
    have h0 : TL.tl x = [] := List.length_eq_zero_iff.mp (by rw [← tl_len]; omega)
    rw [split_no hy hk (by rw [h0]; simp)]
    refine ⟨fun p hp => ?_, by simp, fun p hp => ?_, fun p hp => ?_⟩
    · simp at hp; subst hp; exact Nat.le_refl _
    · simp at hp; subst hp; exact fun k h => h
    · simp at hp; subst hp; rw [h0]; simp
  | succ n ih =>
    intro x hx
    by_cases hc : c ∈ TL.tl x
    · obtain ⟨a, b, e, ha⟩ := cut_first hc
      have hl : x.length = a.length + b.length + 1 := by rw [tl_len, e]; simp; omega
      have hb : Str.length ⟨b.toArray⟩ = b.length := by simp [Str.length]
      obtain ⟨i1, i2, i3, i4⟩ := ih ⟨b.toArray⟩ (by rw [hb]; omega)
      rw [split_cut hy hk e ha]
      refine ⟨fun p hp => ?_, by rw [List.length_cons]; rw [hb] at i2; omega, fun p hp k hk' => ?_, fun p hp => ?_⟩
      · rcases List.mem_cons.mp hp with rfl | hp
        · show a.toArray.size ≤ _
          rw [List.size_toArray]; omega
        · have := i1 p hp; rw [hb] at this; omega
      · rw [e]
        rcases List.mem_cons.mp hp with rfl | hp
        · exact List.mem_append_left _ hk'
        · exact List.mem_append_right _ (List.mem_cons_of_mem _ (i3 p hp k hk'))
      · rcases List.mem_cons.mp hp with rfl | hp
        · exact ha
        · exact i4 p hp
    · rw [split_no hy hk hc]
      refine ⟨fun p hp => ?_, by simp, fun p hp => ?_, fun p hp => ?_⟩
      · simp at hp; subst hp; exact Nat.le_refl _
      · simp at hp; subst hp; exact fun k h => h
      · simp at hp; subst hp; exact hc
theorem split_ne {x y : Str} {c : Nat} (hy : TL.tl y = [c]) (hk : y.cps.all (· < 256) = true) : Txt.split x y ≠ [] := by
  by_cases hc : c ∈ TL.tl x
  · obtain ⟨a, b, e, ha⟩ := cut_first hc
    rw [split_cut hy hk e ha]; simp
  · rw [split_no hy hk hc]; simp
theorem tl_joined {y : Str} {ps : List Str} : TL.tl (Txt.join y ps) = TL.joinL (TL.tl y) (ps.map TL.tl) := by
  rw [TL.join_eq, TL.tl_join]
theorem join_len {y : Str} : ∀ {ps : List Str}, (Txt.join y ps).length ≤ (ps.map (·.length)).sum + ps.length * y.length := by
  intro ps
  rw [tl_len, tl_joined]
  have h : ∀ (S : List Nat) (ls : List (List Nat)), (TL.joinL S ls).length ≤ (ls.map List.length).sum + ls.length * S.length := by
    intro S ls
    induction ls with
    | nil => simp [TL.joinL]
    | cons p r ih =>
      cases r with
      | nil => simp [TL.joinL]
      | cons q r =>
        show (p ++ (S ++ TL.joinL S (q :: r))).length ≤ _
        rw [List.length_append, List.length_append]
        simp only [List.map_cons, List.sum_cons, List.length_cons] at ih ⊢
        rw [Nat.add_mul]
        omega
  have := h (TL.tl y) (ps.map TL.tl)
  rw [List.map_map, List.length_map] at this
  exact this
theorem join_mem {y : Str} {ps : List Str} {k : Nat} (h : k ∈ TL.tl (Txt.join y ps)) : k ∈ TL.tl y ∨ ∃ p ∈ ps, k ∈ TL.tl p := by
  rw [tl_joined] at h
  have : ∀ (S : List Nat) (ls : List (List Nat)), k ∈ TL.joinL S ls → k ∈ S ∨ ∃ p ∈ ls, k ∈ p := by
    intro S ls
    induction ls with
    | nil => intro h; cases h
    | cons p r ih =>
      cases r with
      | nil => intro h; exact .inr ⟨p, List.mem_cons_self, h⟩
      | cons q r =>
        intro h
        rcases List.mem_append.mp h with h | h
        · exact .inr ⟨p, List.mem_cons_self, h⟩
        · rcases List.mem_append.mp h with h | h
          · exact .inl h
          · rcases ih h with h | ⟨z, hz, h⟩
            · exact .inl h
            · exact .inr ⟨z, List.mem_cons_of_mem _ hz, h⟩
  rcases this _ _ h with h | ⟨z, hz, h⟩
  · exact .inl h
  · obtain ⟨p, hp, rfl⟩ := List.mem_map.mp hz
    exact .inr ⟨p, hp, h⟩
theorem join_ne {y : Str} : ∀ {ps : List Str}, (∃ p ∈ ps, TL.tl p ≠ []) → TL.tl (Txt.join y ps) ≠ [] := by
  intro ps
  rw [tl_joined]
  have : ∀ (S : List Nat) (ls : List (List Nat)), (∃ p ∈ ls, p ≠ []) → TL.joinL S ls ≠ [] := by
    intro S ls
    induction ls with
    | nil => intro ⟨p, hp, _⟩; cases hp
    | cons p r ih =>
      intro ⟨q, hq, h⟩
      cases r with
      | nil => simp at hq; subst hq; exact h
      | cons z r =>
        show p ++ (S ++ TL.joinL S (z :: r)) ≠ []
        rcases List.mem_cons.mp hq with rfl | hq
        · simp [h]
        · have := ih ⟨q, hq, h⟩
          simp [this]
  rintro ⟨p, hp, h⟩
  exact this _ _ ⟨TL.tl p, List.mem_map_of_mem hp, h⟩
theorem sum_le {ps : List Str} {L : Nat} (h : ∀ p ∈ ps, p.length ≤ L) : (ps.map (·.length)).sum ≤ ps.length * L := by
  induction ps with
  | nil => simp
  | cons p r ih =>
    have h1 := h p List.mem_cons_self
    have h2 := ih fun q hq => h q (List.mem_cons_of_mem _ hq)
    simp only [List.map_cons, List.sum_cons, List.length_cons, Nat.add_mul]
    omega
theorem cutS_tl {x : Str} {lo hi : Option Int} : ∀ k ∈ TL.tl (L2.cutS x lo hi), k ∈ TL.tl x := fun k h => List.mem_of_mem_drop (List.mem_of_mem_take h)
theorem cutS_len {x : Str} {lo hi : Option Int} : (L2.cutS x lo hi).length ≤ x.length := by
  have h := TL.len_tl x
  have : ∀ n m : Nat, ((List.take n (List.drop m (TL.tl x))).toArray.size) ≤ x.length := fun n m => by
    rw [h]
    simp
    omega
  exact this _ _
/-! ### f-strings -/
inductive JsOk (G : List Sl) : List EF → List Str → Prop
  | nil : JsOk G [] []
  | cons {t : EF} {ts : List EF} {y : Str} {ys : List Str} (h : t G = .ok (.val (.str y)) G) (r : JsOk G ts ys) : JsOk G (t :: ts) (y :: ys)
theorem cJs_ok {G : List Sl} : ∀ {ts : List EF} {ys : List Str} {x : Str}, JsOk G ts ys → x.length + (ys.map (·.length)).sum ≤ 16777216 → cJs ts x G = .ok (.val (.str (ys.foldl (· ++ ·) x))) G
  | _, _, _, .nil, _ => rfl
  | _, _, x, .cons (y := y) (ys := ys) h r, hl => by
    simp only [List.map_cons, List.sum_cons] at hl
    rw [cJs_cons, h]
    simp only [R.bind_ok]
    rw [if_pos (by rw [Str.length_append, szl]; omega), cJs_ok r (by rw [Str.length_append]; omega)]
    rfl
theorem tl_foldl : ∀ {ys : List Str} {x : Str}, TL.tl (ys.foldl (· ++ ·) x) = TL.tl x ++ (ys.map TL.tl).flatten
  | [], x => by simp
  | y :: ys, x => by
    rw [List.foldl_cons, tl_foldl, TL.tl_append]
    simp
theorem fmt_int {G : List Sl} {fa : EF} {n : Int} (h : fa G = .ok (.val (.int n)) G) (hn : n.natAbs.log2 < 1920) : cFmt fa G = .ok (.val (.str (itx n))) G := by
  rw [cFmt_ap, h]
  simp [hn]
theorem fmt_str {G : List Sl} {fa : EF} {x : Str} (h : fa G = .ok (.val (.str x)) G) (hn : x.length ≤ 16777216) : cFmt fa G = .ok (.val (.str x)) G := by
  rw [cFmt_ap, h]
  simp [szl, hn]
end PD

/-! PD43: all, any, max, min, sorted -/
namespace PD
open PySem PySem.Spec L2 L2H
def blsO : List D → Option (List Bool)
  | [] => some []
  | .bl b :: ds => (blsO ds).map (b :: ·)
  | _ => none
def intsO : List D → Option (List Int)
  | [] => some []
  | .int i :: ds => (intsO ds).map (i :: ·)
  | _ => none
section
variable {e : Ev} {X : Cx} {Z : Zo} {H : Hp}
theorem blsO_ok : ∀ {ds : List D} {vs : List V} {bs : List Bool}, Rps e Z H ds vs → blsO ds = some bs → vs = bs.map V.bl
  | [], _, _, h, q => by cases h; cases q; rfl
  | d :: ds, _, bs, h, q => by
    obtain ⟨v, r, rfl, h1, h2⟩ := h
    cases d with
    | bl b =>
      simp only [blsO, Option.map_eq_some_iff] at q
      obtain ⟨bs', q1, rfl⟩ := q
      cases h1
      rw [blsO_ok h2 q1]
      rfl
    | _ => cases q
theorem intsO_ok : ∀ {ds : List D} {vs : List V} {bs : List Int}, Rps e Z H ds vs → intsO ds = some bs → vs = bs.map V.int
  | [], _, _, h, q => by cases h; cases q; rfl
  | d :: ds, _, bs, h, q => by
    obtain ⟨v, r, rfl, h1, h2⟩ := h
    cases d with
    | int b =>
      simp only [intsO, Option.map_eq_some_iff] at q
      obtain ⟨bs', q1, rfl⟩ := q
      cases h1
      rw [intsO_ok h2 q1]
      rfl
    | _ => cases q
theorem rps_ofI {ns : List Int} : Rps e Z H (ns.map D.int) (ns.map V.int) := by
  induction ns with
  | nil => rfl
  | cons n ns ih => exact ⟨_, _, rfl, rfl, ih⟩
theorem rps_ofS {ns : List Str} : Rps e Z H (ns.map D.str) (ns.map V.str) := by
  induction ns with
  | nil => rfl
  | cons n ns ih => exact ⟨_, _, rfl, rfl, ih⟩
def kAll : List D → Option PV
  | [.lst ds] => (blsO ds).map fun bs => .val (.bl (bs.all id))
  | _ => none
def kAny : List D → Option PV
  | [.lst ds] => (blsO ds).map fun bs => .val (.bl (bs.any id))
  | _ => none
theorem bAll (hc : X.calm = true) : CallR X (.builtin "all") (rKB e kAll) := by
  refine callK fun pins s σ H xs us Q Z ds r I rx zl r0 h q => ?_
  unfold kAll at h
  split at h
  · simp only [Option.map_eq_some_iff] at h
    obtain ⟨bs, h1, rfl⟩ := h
    obtain ⟨v, rfl, hr⟩ := r0.one
    obtain ⟨a, vs, rfl, h2, h3⟩ := hr.lst
    cases blsO_ok h3 h1
    exact cr_all hc pins s σ H _ us Q I rx ⟨a, bs, rfl, SqL.of h2, q _ _ (Out.scal fun _ _ => rfl)⟩
  · cases h
theorem bAny (hc : X.calm = true) : CallR X (.builtin "any") (rKB e kAny) := by
  refine callK fun pins s σ H xs us Q Z ds r I rx zl r0 h q => ?_
  unfold kAny at h
  split at h
  · simp only [Option.map_eq_some_iff] at h
    obtain ⟨bs, h1, rfl⟩ := h
    obtain ⟨v, rfl, hr⟩ := r0.one
    obtain ⟨a, vs, rfl, h2, h3⟩ := hr.lst
    cases blsO_ok h3 h1
    exact cr_any hc pins s σ H _ us Q I rx ⟨a, bs, rfl, SqL.of h2, q _ _ (Out.scal fun _ _ => rfl)⟩
  · cases h
/-! ### max, min -/
def maxL : List Int → Int
  | [] => 0
  | [n] => n
  | n :: m :: ns => max n (maxL (m :: ns))
def minL : List Int → Int
  | [] => 0
  | [n] => n
  | n :: m :: ns => min n (minL (m :: ns))
theorem maxL_mem : ∀ {ns : List Int}, ns ≠ [] → maxL ns ∈ ns ∧ ∀ y ∈ ns, y ≤ maxL ns
  | [], h => absurd rfl h
  | [n], _ => by simp [maxL]
  | n :: m :: ns, _ => by
    obtain ⟨h1, h2⟩ := maxL_mem (ns := m :: ns) (by simp)
    show max n (maxL (m :: ns)) ∈ n :: m :: ns ∧ ∀ y ∈ n :: m :: ns, y ≤ max n (maxL (m :: ns))
    generalize maxL (m :: ns) = k at *
    refine ⟨?_, fun y hy => ?_⟩
    · by_cases h : n ≤ k
      · rw [Int.max_eq_right h]; exact List.mem_cons_of_mem _ h1
      · rw [Int.max_eq_left (by omega)]; exact List.mem_cons_self
    · rcases List.mem_cons.mp hy with rfl | hy
      · omega
      · have := h2 y hy; omega
theorem minL_mem : ∀ {ns : List Int}, ns ≠ [] → minL ns ∈ ns ∧ ∀ y ∈ ns, minL ns ≤ y
  | [], h => absurd rfl h
  | [n], _ => by simp [minL]
  | n :: m :: ns, _ => by
    obtain ⟨h1, h2⟩ := minL_mem (ns := m :: ns) (by simp)
    show min n (minL (m :: ns)) ∈ n :: m :: ns ∧ ∀ y ∈ n :: m :: ns, min n (minL (m :: ns)) ≤ y
    generalize minL (m :: ns) = k at *
    refine ⟨?_, fun y hy => ?_⟩
    · by_cases h : k ≤ n
      · rw [Int.min_eq_right h]; exact List.mem_cons_of_mem _ h1
      · rw [Int.min_eq_left (by omega)]; exact List.mem_cons_self
    · rcases List.mem_cons.mp hy with rfl | hy
      · omega
      · have := h2 y hy; omega
def kMax : List D → Option PV
  | [.lst ds] => (match intsO ds with
    | some (n :: ns) => some (.val (.int (maxL (n :: ns))))
    | _ => none)
  | [.int i, .int j] => some (.val (.int (max i j)))
  | _ => none
def kMin : List D → Option PV
  | [.lst ds] => (match intsO ds with
    | some (n :: ns) => some (.val (.int (minL (n :: ns))))
    | _ => none)
  | [.int i, .int j] => some (.val (.int (min i j)))
  | _ => none
theorem bMax (hc : X.calm = true) : CallR X (.builtin "max") (rKB e kMax) := by
  refine callK fun pins s σ H xs us Q Z ds r I rx zl r0 h q => ?_
  unfold kMax at h
  split at h
  · split at h
    · rename_i n ns h1
      cases h
      obtain ⟨v, rfl, hr⟩ := r0.one
      obtain ⟨a, vs, rfl, h2, h3⟩ := hr.lst
      cases intsO_ok h3 h1
      obtain ⟨k1, k2⟩ := maxL_mem (ns := n :: ns) (by simp)
      refine cr_max hc pins s σ H _ us Q I rx ⟨a, n :: ns, rfl, SqL.of h2, by simp, fun m m1 m2 => ?_⟩
      have : m = maxL (n :: ns) := Int.le_antisymm (k2 m m1) (m2 _ k1)
      subst this
      exact q _ _ (Out.scal fun _ _ => rfl)
    · cases h
  · rename_i i j
    cases h
    obtain ⟨v, u, rfl, r1, r2⟩ := r0.two
    cases r1.int; cases r2.int
    refine call_max2 hc pins s σ H _ us Q I rx ⟨i, j, rfl, ?_⟩
    have : (if j > i then j else i) = max i j := by split <;> omega
    rw [this]
    exact q _ _ (Out.scal fun _ _ => rfl)
  · cases h
theorem bMin (hc : X.calm = true) : CallR X (.builtin "min") (rKB e kMin) := by
  refine callK fun pins s σ H xs us Q Z ds r I rx zl r0 h q => ?_
  unfold kMin at h
  split at h
  · split at h
    · rename_i n ns h1
      cases h
      obtain ⟨v, rfl, hr⟩ := r0.one
      obtain ⟨a, vs, rfl, h2, h3⟩ := hr.lst
      cases intsO_ok h3 h1
      obtain ⟨k1, k2⟩ := minL_mem (ns := n :: ns) (by simp)
      refine cr_min hc pins s σ H _ us Q I rx ⟨a, n :: ns, rfl, SqL.of h2, by simp, fun m m1 m2 => ?_⟩
      have : m = minL (n :: ns) := Int.le_antisymm (m2 _ k1) (k2 m m1)
      subst this
      exact q _ _ (Out.scal fun _ _ => rfl)
    · cases h
  · rename_i i j
    cases h
    obtain ⟨v, u, rfl, r1, r2⟩ := r0.two
    cases r1.int; cases r2.int
    refine call_min2 hc pins s σ H _ us Q I rx ⟨i, j, rfl, ?_⟩
    have : (if j < i then j else i) = min i j := by split <;> omega
    rw [this]
    exact q _ _ (Out.scal fun _ _ => rfl)
  · cases h
/-! ### sorted of ints, of texts -/
def insO {α : Type} (le : α → α → Bool) (x : α) : List α → List α
  | [] => [x]
  | y :: ys => if le x y = true then x :: y :: ys else y :: insO le x ys
def srtO {α : Type} (le : α → α → Bool) : List α → List α
  | [] => []
  | x :: xs => insO le x (srtO le xs)
theorem insO_perm {α : Type} {le : α → α → Bool} {x : α} : ∀ {l : List α}, (insO le x l).Perm (x :: l)
  | [] => .refl _
  | y :: ys => by
    unfold insO
    split
    · exact .refl _
    · exact (List.Perm.cons y insO_perm).trans (List.Perm.swap x y ys)
theorem srtO_perm {α : Type} {le : α → α → Bool} : ∀ {l : List α}, (srtO le l).Perm l
  | [] => .refl _
  | x :: xs => insO_perm.trans (List.Perm.cons x srtO_perm)
theorem insO_pw {α : Type} {le : α → α → Bool} (tot : ∀ a b, le a b = true ∨ le b a = true) (tr : ∀ a b c, le a b = true → le b c = true → le a c = true) {x : α} : ∀ {l : List α}, l.Pairwise (fun a b => le a b = true) → (insO le x l).Pairwise (fun a b => le a b = true)
  | [], _ => by simp [insO]
  | y :: ys, h => by
    obtain ⟨h1, h2⟩ := List.pairwise_cons.mp h
    unfold insO
    split
    · rename_i hxy
      refine List.pairwise_cons.mpr ⟨fun z hz => ?_, h⟩
      rcases List.mem_cons.mp hz with rfl | hz
      · exact hxy
      · exact tr _ _ _ hxy (h1 z hz)
    · rename_i hxy
      refine List.pairwise_cons.mpr ⟨fun z hz => ?_, insO_pw tot tr h2⟩
      rcases List.mem_cons.mp (insO_perm.mem_iff.mp hz) with rfl | hz
      · exact (tot z y).resolve_left hxy
      · exact h1 z hz
theorem srtO_pw {α : Type} {le : α → α → Bool} (tot : ∀ a b, le a b = true ∨ le b a = true) (tr : ∀ a b c, le a b = true → le b c = true → le a c = true) : ∀ {l : List α}, (srtO le l).Pairwise (fun a b => le a b = true)
  | [] => .nil
  | x :: xs => insO_pw tot tr (srtO_pw tot tr)
def leI (a b : Int) : Bool := decide (a ≤ b)
def sortI : List Int → List Int := srtO leI
theorem sortI_perm {l : List Int} : (sortI l).Perm l := srtO_perm
theorem sortI_pw {l : List Int} : (sortI l).Pairwise (· ≤ ·) := (srtO_pw (le := leI) (fun a b => by simp [leI]; omega) (fun a b c h1 h2 => by simp [leI] at *; omega)).imp fun h => of_decide_eq_true h
theorem sortI_eq {l m : List Int} (h : m.Perm l) (hp : m.Pairwise (· ≤ ·)) : m = sortI l := PySem.W.ksm_same (h.trans sortI_perm.symm) hp sortI_pw
def kSorted : List D → Option PV
  | [.lst ds] => (match intsO ds with
    | some ns => if ns.length < 64 then some (.fr (.lst ((sortI ns).map D.int))) else none
    | none => none)
  | _ => none
theorem bSorted (hk : X.K = e.K) : CallR X (.builtin "sorted") (rKB e kSorted) := by
  refine callK fun pins s σ H xs us Q Z ds r I rx zl r0 h q => ?_
  unfold kSorted at h
  split at h
  · split at h
    · rename_i ns h1
      split at h
      · rename_i hlen
        cases h
        obtain ⟨v, rfl, hr⟩ := r0.one
        obtain ⟨a, vs, rfl, h2, h3⟩ := hr.lst
        cases intsO_ok h3 h1
        refine cr_sorted pins s σ H _ us Q I rx ⟨a, ns, rfl, SqL.of h2, hlen, fun ns' p k1 k2 hp => ?_⟩
        rw [sortI_eq k1 k2]
        exact q _ _ (Out.newL hp rps_ofI)
      · cases h
    · cases h
  · cases h
end
section
variable {ds : List D} {i j : Int}
@[simp] theorem blsO_map {bs : List Bool} : blsO (bs.map D.bl) = some bs := by
  induction bs with
  | nil => rfl
  | cons b bs ih => simp [blsO, ih]
@[simp] theorem intsO_map {ns : List Int} : intsO (ns.map D.int) = some ns := by
  induction ns with
  | nil => rfl
  | cons b bs ih => simp [intsO, ih]
@[simp] theorem kAll_ap : kAll [.lst ds] = (blsO ds).map fun bs => .val (.bl (bs.all id)) := rfl
@[simp] theorem kAny_ap : kAny [.lst ds] = (blsO ds).map fun bs => .val (.bl (bs.any id)) := rfl
@[simp] theorem kMax_two : kMax [.int i, .int j] = some (.val (.int (max i j))) := rfl
@[simp] theorem kMin_two : kMin [.int i, .int j] = some (.val (.int (min i j))) := rfl
theorem kMax_ints {ns : List Int} (h : ns ≠ []) : kMax [.lst (ns.map D.int)] = some (.val (.int (maxL ns))) := by
  unfold kMax
  simp only [intsO_map]
  cases ns with
  | nil => exact absurd rfl h
  | cons n ns => rfl
theorem kMin_ints {ns : List Int} (h : ns ≠ []) : kMin [.lst (ns.map D.int)] = some (.val (.int (minL ns))) := by
  unfold kMin
  simp only [intsO_map]
  cases ns with
  | nil => exact absurd rfl h
  | cons n ns => rfl
theorem kSorted_ints {ns : List Int} (h : ns.length < 64) : kSorted [.lst (ns.map D.int)] = some (.fr (.lst ((sortI ns).map D.int))) := by
  unfold kSorted
  simp [h]
end
end PD

/-! PD44: list comprehensions of two clauses -/
namespace PD
open PySem PySem.Spec L2 L2H
def lc2Go (vs vs1 : List Nat) (g : GF) (t : TF) (src1 : F (List D)) (g1 : GF) (t1 : TF) (f : EF) : List D → List D → List Sl → R (List D)
  | [], acc, G => .ok acc G
  | d :: ds, acc, G => match g d (wipeG G vs) with
    | none => .bad
    | some G1 => (noEx (t G1)).bind fun b G2 => if b = true then (noEx (src1 G2)).bind fun es G3 => (lcGo vs1 g1 t1 f es acc G3).bind fun acc' G4 => lc2Go vs vs1 g t src1 g1 t1 f ds acc' (wipeG G4 vs1)
      else lc2Go vs vs1 g t src1 g1 t1 f ds acc G2
def cLC2 (src : F (List D)) (vs vs1 : List Nat) (g : GF) (t : TF) (src1 : F (List D)) (g1 : GF) (t1 : TF) (f : EF) : EF := fun G => (src G).bind fun ds G1 => if okW G1 vs = true then (lc2Go vs vs1 g t src1 g1 t1 f ds [] G1).bind fun xs G2 => .ok (.fr (.lst xs)) (resG G1 (wipeG G2 vs) vs) else .bad
section
variable {e : Ev} {W : WX} {P : Pre} {σ τ : L2.St} {G G1 G2 : List Sl} {H H1 H2 : Hp} {Z : Zo} {X : Cx} {src src1 : F (List D)} {vs vs1 : List Nat} {g g1 : GF} {t t1 : TF} {f : EF}
theorem sub_wipe {vs vs1 : List Nat} (h : ∀ v ∈ vs1, v ∈ vs) {σ τ : L2.St} (hs : Same vs1 σ τ) : Same vs σ τ := ⟨hs.1, fun j hj => hs.2 j fun z => hj (h j z)⟩
theorem tD_lc2 {Q : VK} (hsub : ∀ v ∈ vs1, v ∈ vs) (h : tD e W (cLC2 src vs vs1 g t src1 g1 t1 f) σ H Q) : tLc2 (tI e W src) (tGx e vs g) (tT e W0 t) (tI e W0 src1) (tGx e vs1 g1) (tT e W0 t1) (tD e W0 f) vs vs1 σ H Q := by
  obtain ⟨P, G, S, h⟩ := h
  refine ⟨P, G, S, h.bind.mono (fun ds G1 q J H1 S1 st1 it L hL => ?_) fun _ _ s => s⟩
  split at q
  case isFalse => exact q.elim
  rename_i hW
  unfold okW at hW
  simp only [Bool.and_eq_true, decide_eq_true_eq, List.all_eq_true] at hW
  obtain ⟨nd, hall⟩ := hW
  have hlt : ∀ v ∈ vs, v < σ.length := fun v hv => by
    have := hall v hv
    split at this
    · rename_i s q1
      rw [← S1.len]; exact (List.getElem?_eq_some_iff.mp q1).1
    · cases this
  have held : ∀ v ∈ vs, Held e (Zn P G1 σ) H1 σ v ((G1[v]?).getD .no) := fun v hv => by
    have := hall v hv
    split at this
    · rename_i s q1
      rw [q1]
      have k := S1.slot _ _ q1
      cases s with
      | no => exact .inl rfl
      | imm d => obtain ⟨x, k1, k2⟩ := k; exact .inr ⟨d, x, rfl, k1, k2⟩
      | _ => cases this
    · cases this
  have h0 : P.H0 L = none := by
    cases q : P.H0 L with
    | none => rfl
    | some o => exact absurd hL (S1.live L (by rw [q]; simp))
  have hz0 : ¬ P.Z0 L := fun z => S1.z0 L z h0
  have hw : ¬ P.Wr L := fun z => hz0 (S1.wz L z)
  have SL := S1.lcIn (acc := []) hL
  have stL : Step (Zn P G1 σ) H1 (Zn (lcP P L []) G1 σ) (upd H1 L (.lst [])) := step_grow (upd_keeps hL) fun a ha z => by
    rcases zn_lc.mp z with z | z
    · exact z
    · subst z; exact absurd hL ha
  obtain ⟨SW, zW⟩ := SL.wiped vs
  have kp : ∀ {acc : List V} {Gi : List Sl} {τ : L2.St} {Hi : Hp}, Sat e (lcP P L acc) Gi τ Hi → Kp P Hi := fun {acc Gi τ Hi} Si a o ha w _ => by
    have ne : a ≠ L := fun z => by subst z; rw [h0] at ha; cases ha
    exact Si.keep a o (by rw [show (lcP P L acc).H0 = upd P.H0 L (.lst acc) from rfl, upd_ne ne]; exact ha) w
  let Post : R (List D) → Prop := fun r => PostR e W P σ (Zn P G σ) H (fun pv G2 => ∀ v H2, Res e P σ (Zn P G σ) H pv G2 v H2 → Q v H2) (r.bind fun xs G2 => .ok (.fr (.lst xs)) (resG G1 (wipeG G2 vs) vs))
  -- the outer state
  let Out : Nat → Hp → Prop := fun i Hi => ∃ Gi acc xs, Sat e (lcP P L acc) (wipeG Gi vs) (wipe σ vs) Hi ∧ Step (Zn P G1 σ) H1 (Zn (lcP P L acc) (wipeG Gi vs) (wipe σ vs)) Hi ∧ Rps e (Zn (lcP P L acc) (wipeG Gi vs) (wipe σ vs)) Hi xs acc ∧
    Post (lc2Go vs vs1 g t src1 g1 t1 f (ds.drop i) xs Gi)
  refine ⟨fun i m Hi => m = ds.length - i ∧ i ≤ ds.length ∧ Out i Hi, ⟨ds.length, by simp, Nat.zero_le _, G1, [], [], SW, (stL.zone zW), rfl, by simpa using q⟩, ?_⟩
  rintro i m Hi ⟨rfl, hi, Gi, acc, xs, Si, sti, ri, post⟩
  by_cases hlt' : i < ds.length
  · refine .inr ⟨it.go _ _ i sti (kp Si) hlt', ?_⟩
    rw [List.drop_eq_getElem_cons hlt'] at post
    simp only [lc2Go] at post
    refine ⟨fun H' => Out (i + 1) H', fun H' o => ⟨ds.length - (i + 1), by omega, rfl, hlt', o⟩, fun x H'' y => ?_⟩
    obtain ⟨gr, rp⟩ := it.yl _ _ i ds[i] x H'' sti (kp Si) (fun a z => Si.zlive z) (List.getElem?_eq_getElem hlt') y
    have S2 := Si.grow gr
    have sg := step_of_grow Si gr
    have st2 := sti.trans sg
    refine ⟨lcP P L acc, wipeG Gi vs, ds[i], S2, rp, ?_⟩
    cases q3 : g ds[i] (wipeG Gi vs) with
    | none => rw [q3] at post; exact post.elim
    | some G3 =>
      rw [q3] at post
      intro σ3 S3 st3 sm3
      have st3' := st2.trans st3
      have sm30 : Same vs σ σ3 := same_wipe.trans sm3
      have w3 : wipe σ3 vs = wipe σ vs := sm30.wipe_eq.symm
      have r3 := Rps.step (sg.trans st3) _ _ ri
      dsimp only at post
      cases qt : t G3 with
      | ex c ns es G4 => rw [qt] at post; exact post.elim
      | bad => rw [qt] at post; exact post.elim
      | ok b G4 =>
        rw [qt] at post
        simp only [noEx_ok, R.bind_ok] at post
        refine ⟨w3, lcP P L acc, G3, S3, ?_⟩
        rw [qt]
        intro H4 S4 st4
        have r4 := Rps.step st4 _ _ r3
        have st4' := st3'.trans st4
        cases b with
        | false =>
          rw [if_neg (by decide)] at post
          refine iteF ⟨G4, acc, xs, ?_⟩
          obtain ⟨S5, z5⟩ := S4.wiped vs
          rw [w3] at S5 z5
          exact ⟨S5, st4'.zone z5, Rps.zone r4 z5, post⟩
        | true =>
          rw [if_pos rfl] at post
          cases qs : src1 G4 with
          | ex c ns es G5 => rw [qs] at post; exact post.elim
          | bad => rw [qs] at post; exact post.elim
          | ok es G5 =>
            rw [qs] at post
            simp only [noEx_ok, R.bind_ok] at post
            refine iteT ⟨lcP P L acc, G4, S4, ?_⟩
            rw [qs]
            intro J1 H5 S5 st5 it1
            have r5 := Rps.step st5 _ _ r4
            have st5' := st4'.trans st5
            obtain ⟨SW1, zW1⟩ := S5.wiped vs1
            have kp1 : ∀ {acc' : List V} {Gi : List Sl} {τ : L2.St} {Hi : Hp}, Sat e (lcP P L acc') Gi τ Hi → Kp (lcP P L acc) Hi := fun {acc' Gi τ Hi} Si a o ha w x => by
              have ne : a ≠ L := fun z => x (.inr z)
              rw [show (lcP P L acc).H0 = upd P.H0 L (.lst acc) from rfl, upd_ne ne] at ha
              exact Si.keep a o (by rw [show (lcP P L acc').H0 = upd P.H0 L (.lst acc') from rfl, upd_ne ne]; exact ha) w
            have wsub : ∀ {τ : L2.St}, Same vs1 σ3 τ → wipe τ vs = wipe σ vs := fun hs => by rw [← (sub_wipe hsub hs).wipe_eq]; exact w3
            refine ⟨fun j k Hj => k = es.length - j ∧ j ≤ es.length ∧ ∃ Gj acc' xs', Sat e (lcP P L acc') (wipeG Gj vs1) (wipe σ3 vs1) Hj ∧ Step (Zn (lcP P L acc) G5 σ3) H5 (Zn (lcP P L acc') (wipeG Gj vs1) (wipe σ3 vs1)) Hj ∧ Rps e (Zn (lcP P L acc') (wipeG Gj vs1) (wipe σ3 vs1)) Hj xs' acc' ∧
              Post ((lcGo vs1 g1 t1 f (es.drop j) xs' Gj).bind fun acc' G4 => lc2Go vs vs1 g t src1 g1 t1 f (ds.drop (i + 1)) acc' (wipeG G4 vs1)), ⟨es.length, by simp, Nat.zero_le _, G5, acc, xs, SW1, (Step.refl _ _).zone zW1, Rps.zone r5 zW1, post⟩, ?_⟩
            rintro j k Hj ⟨rfl, hj, Gj, acc', xs', Sj, stj, rj, post⟩
            by_cases hjl : j < es.length
            · refine .inr ⟨it1.go _ _ j stj (kp1 Sj) hjl, ?_⟩
              rw [List.drop_eq_getElem_cons hjl] at post
              simp only [lcGo] at post
              refine ⟨fun H' => ∃ Gj acc' xs', Sat e (lcP P L acc') (wipeG Gj vs1) (wipe σ3 vs1) H' ∧ Step (Zn (lcP P L acc) G5 σ3) H5 (Zn (lcP P L acc') (wipeG Gj vs1) (wipe σ3 vs1)) H' ∧ Rps e (Zn (lcP P L acc') (wipeG Gj vs1) (wipe σ3 vs1)) H' xs' acc' ∧
                Post ((lcGo vs1 g1 t1 f (es.drop (j + 1)) xs' Gj).bind fun acc' G4 => lc2Go vs vs1 g t src1 g1 t1 f (ds.drop (i + 1)) acc' (wipeG G4 vs1)), fun H' ⟨Gk, a', x', b1, b2, b3, b4⟩ => ⟨es.length - (j + 1), by omega, rfl, hjl, Gk, a', x', b1, b2, b3, b4⟩, fun x H'' y => ?_⟩
              obtain ⟨gr, rp⟩ := it1.yl _ _ j es[j] x H'' stj (kp1 Sj) (fun a z => Sj.zlive z) (List.getElem?_eq_getElem hjl) y
              have S6 := Sj.grow gr
              have sg := step_of_grow Sj gr
              have st6 := stj.trans sg
              refine ⟨lcP P L acc', wipeG Gj vs1, es[j], S6, rp, ?_⟩
              cases q6 : g1 es[j] (wipeG Gj vs1) with
              | none => rw [q6] at post; exact post.elim
              | some G6 =>
                rw [q6] at post
                intro σ7 S7 st7 sm7
                have st7' := st6.trans st7
                have sm70 : Same vs1 σ3 σ7 := same_wipe.trans sm7
                have w7 : wipe σ7 vs1 = wipe σ3 vs1 := sm70.wipe_eq.symm
                have r7 := Rps.step (sg.trans st7) _ _ rj
                dsimp only at post
                cases qt1 : t1 G6 with
                | ex c ns us G7 => rw [qt1] at post; exact post.elim
                | bad => rw [qt1] at post; exact post.elim
                | ok b G7 =>
                  rw [qt1] at post
                  simp only [noEx_ok, R.bind_ok] at post
                  refine ⟨w7, lcP P L acc', G6, S7, ?_⟩
                  rw [qt1]
                  intro H8 S8 st8
                  have r8 := Rps.step st8 _ _ r7
                  have st8' := st7'.trans st8
                  cases b with
                  | false =>
                    rw [if_neg (by decide)] at post
                    refine iteF ⟨G7, acc', xs', ?_⟩
                    obtain ⟨S9, z9⟩ := S8.wiped vs1
                    rw [w7] at S9 z9
                    exact ⟨S9, st8'.zone z9, Rps.zone r8 z9, post⟩
                  | true =>
                    rw [if_pos rfl] at post
                    cases qf : f G7 with
                    | ex c ns us G8 => rw [qf] at post; exact post.elim
                    | bad => rw [qf] at post; exact post.elim
                    | ok pv G8 =>
                      rw [qf] at post
                      simp only [noEx_ok, R.bind_ok] at post
                      refine iteT ⟨lcP P L acc', G7, S8, ?_⟩
                      rw [qf]
                      intro v H9 r9
                      obtain ⟨S9, st9, t9⟩ := r9.tmp
                      cases q10 : esc pv G8 with
                      | none => rw [q10] at post; exact post.elim
                      | some dg =>
                        obtain ⟨d', G10⟩ := dg
                        rw [q10] at post
                        dsimp only at post
                        obtain ⟨S10, st10, r10⟩ := esc_ok S9 t9 q10
                        by_cases hlen : xs'.length < 1000000
                        · rw [if_pos hlen] at post
                          have rr := Rps.step (st9.trans st10) _ _ r8
                          obtain ⟨S11, st11⟩ := S10.lcApp (acc' := acc' ++ [v]) hw
                          obtain ⟨S12, z12⟩ := S11.wiped vs1
                          rw [w7] at S12 z12
                          refine ⟨acc', lcP_acc S10 hw, ?_, G10, acc' ++ [v], xs' ++ [d'], S12, (((st8'.trans st9).trans st10).trans st11).zone z12, ?_, post⟩
                          · rw [rr.length]; exact Nat.lt_of_lt_of_le hlen (by decide)
                          · exact Rps.zone (Rps.step st11 _ _ (rps_snoc rr r10)) z12
                        · rw [if_neg hlen] at post; exact post.elim
            · have e1 : j = es.length := by omega
              subst e1
              refine .inl ⟨it1.st _ _ stj (kp1 Sj), ?_⟩
              rw [List.drop_length] at post
              simp only [lcGo, R.bind_ok] at post
              obtain ⟨S6, z6⟩ := Sj.wiped vs
              have w6 : wipe (wipe σ3 vs1) vs = wipe σ vs := wsub same_wipe
              rw [w6] at S6 z6
              exact ⟨wipeG Gj vs1, acc', xs', S6, (st5'.trans stj).zone z6, Rps.zone rj z6, post⟩
  · have e1 : i = ds.length := by omega
    subst e1
    refine .inl ⟨it.st _ _ sti (kp Si), ?_⟩
    rw [List.drop_length] at post
    obtain ⟨S3, z3⟩ := Sat.back (G0 := G1) nd hlt Si fun v hv => by
      rcases held v hv with h | ⟨d, x, h1, h2, h3⟩
      · exact .inl h
      · exact .inr ⟨d, x, h1, h2, Rp.step sti _ _ h3⟩
    obtain ⟨S4, z4⟩ := S3.lcOut h0 hz0 hw S1.z0 S1.wz (Rps.zone ri fun a z => (z3 a).mp z)
    exact post _ Hi ⟨L, rfl, S4, st1.trans (sti.zone fun a z => (z3 a).mp ((z4 a).mp z))⟩
end
section
variable {e : Ev} {W : WX} {σ : L2.St} {H : Hp} {X : Cx} {src src1 : F (List D)} {g g1 : GF} {t t1 : TF} {f : EF} {elt tg iter tg1 iter1 : Expr} {ifs ifs1 : List Expr} {scope : Scope} {own own1 : List (Str × Nat)} {pos spos py : Pos}
theorem de_lc2 (B : Bd e X W) (hc : X.calm = true) (hN : X.N.Nodup) (hi : PI X tg iter (tI e W src)) (ok : blkC X.N X.env.scope scope (own ++ own1) = true)
    (hg : ∀ (s : Shared) (H : Hp) (C : Addr) (cl : List (Str × Addr)) (fp : List Addr), Bd e (X.blk s H scope (compEnvC scope cl C X.env) fp) W0 → PG (X.blk s H scope (compEnvC scope cl C X.env) fp) tg (tGx e ((own ++ own1).map (·.2)) g)) (ht : ∀ (s : Shared) (H : Hp) (C : Addr) (cl : List (Str × Addr)) (fp : List Addr), Bd e (X.blk s H scope (compEnvC scope cl C X.env) fp) W0 → PTs (X.blk s H scope (compEnvC scope cl C X.env) fp) ifs (tT e W0 t))
    (hi1 : ∀ (s : Shared) (H : Hp) (C : Addr) (cl : List (Str × Addr)) (fp : List Addr), Bd e (X.blk s H scope (compEnvC scope cl C X.env) fp) W0 → PI (X.blk s H scope (compEnvC scope cl C X.env) fp) tg1 iter1 (tI e W0 src1))
    (hg1 : ∀ (s : Shared) (H : Hp) (C : Addr) (cl : List (Str × Addr)) (fp : List Addr), Bd e (X.blk s H scope (compEnvC scope cl C X.env) fp) W0 → PG (X.blk s H scope (compEnvC scope cl C X.env) fp) tg1 (tGx e (own1.map (·.2)) g1)) (ht1 : ∀ (s : Shared) (H : Hp) (C : Addr) (cl : List (Str × Addr)) (fp : List Addr), Bd e (X.blk s H scope (compEnvC scope cl C X.env) fp) W0 → PTs (X.blk s H scope (compEnvC scope cl C X.env) fp) ifs1 (tT e W0 t1))
    (he : ∀ (s : Shared) (H : Hp) (C : Addr) (cl : List (Str × Addr)) (fp : List Addr), Bd e (X.blk s H scope (compEnvC scope cl C X.env) fp) W0 → PE (X.blk s H scope (compEnvC scope cl C X.env) fp) elt (tD e W0 f)) (hs : ∀ x, foldedSetIterable iter X.env x = pure x := by intro _; rfl) (hs1 : ∀ env x, foldedSetIterable iter1 env x = pure x := by intro _ _; rfl) :
    PE X (.ListComp elt [⟨tg, iter, ifs, 0⟩, ⟨tg1, iter1, ifs1, 0⟩] scope pos) (tD e W (cLC2 src ((own ++ own1).map (·.2)) (own1.map (·.2)) g t src1 g1 t1 f)) :=
  have hsub : ∀ v ∈ own1.map (·.2), v ∈ (own ++ own1).map (·.2) := fun v hv => by rw [List.map_append]; exact List.mem_append_right _ hv
  (pe_lc2 hc hN hi (blkOk_by ok) hsub (fun s H C cl fp => hg s H C cl fp (bd_blk B)) (fun s H C cl fp => ht s H C cl fp (bd_blk B)) (fun s H C cl fp => hi1 s H C cl fp (bd_blk B)) (fun s H C cl fp => hg1 s H C cl fp (bd_blk B)) (fun s H C cl fp => ht1 s H C cl fp (bd_blk B)) (fun s H C cl fp => he s H C cl fp (bd_blk B)) hs hs1).imp fun _ _ _ h => tD_lc2 hsub h
theorem ds_setLc2 {i : Nat} {y : Str} (B : Bd e X W) (hc : X.calm = true) (hN : X.N.Nodup) (hy : X.N[i]? = some y) (hyl : X.env.scope.names.lookup y = some .local) (hi : PI X tg iter (tI e W src)) (ok : blkC X.N X.env.scope scope (own ++ own1) = true)
    (hg : ∀ (s : Shared) (H : Hp) (C : Addr) (cl : List (Str × Addr)) (fp : List Addr), Bd e (X.blk s H scope (compEnvC scope cl C X.env) fp) W0 → PG (X.blk s H scope (compEnvC scope cl C X.env) fp) tg (tGx e ((own ++ own1).map (·.2)) g)) (ht : ∀ (s : Shared) (H : Hp) (C : Addr) (cl : List (Str × Addr)) (fp : List Addr), Bd e (X.blk s H scope (compEnvC scope cl C X.env) fp) W0 → PTs (X.blk s H scope (compEnvC scope cl C X.env) fp) ifs (tT e W0 t))
    (hi1 : ∀ (s : Shared) (H : Hp) (C : Addr) (cl : List (Str × Addr)) (fp : List Addr), Bd e (X.blk s H scope (compEnvC scope cl C X.env) fp) W0 → PI (X.blk s H scope (compEnvC scope cl C X.env) fp) tg1 iter1 (tI e W0 src1))
    (hg1 : ∀ (s : Shared) (H : Hp) (C : Addr) (cl : List (Str × Addr)) (fp : List Addr), Bd e (X.blk s H scope (compEnvC scope cl C X.env) fp) W0 → PG (X.blk s H scope (compEnvC scope cl C X.env) fp) tg1 (tGx e (own1.map (·.2)) g1)) (ht1 : ∀ (s : Shared) (H : Hp) (C : Addr) (cl : List (Str × Addr)) (fp : List Addr), Bd e (X.blk s H scope (compEnvC scope cl C X.env) fp) W0 → PTs (X.blk s H scope (compEnvC scope cl C X.env) fp) ifs1 (tT e W0 t1))
    (he : ∀ (s : Shared) (H : Hp) (C : Addr) (cl : List (Str × Addr)) (fp : List Addr), Bd e (X.blk s H scope (compEnvC scope cl C X.env) fp) W0 → PE (X.blk s H scope (compEnvC scope cl C X.env) fp) elt (tD e W0 f)) (hs : ∀ x, foldedSetIterable iter X.env x = pure x := by intro _; rfl) (hs1 : ∀ env x, foldedSetIterable iter1 env x = pure x := by intro _ _; rfl)
    (hk : X.env.scope.kind = .function := by rfl) (hl : (py.line == pos.line) = true := by rfl) (ha : (scope.names.any fun (n, k) => n == y && (k == .local || k == .cell)) = false := by rfl) :
    PS X (.Assign [.Name y py] (.ListComp elt [⟨tg, iter, ifs, 0⟩, ⟨tg1, iter1, ifs1, 0⟩] scope pos) spos) (tS e W (cSet i (cLC2 src ((own ++ own1).map (·.2)) (own1.map (·.2)) g t src1 g1 t1 f))) :=
  have hsub : ∀ v ∈ own1.map (·.2), v ∈ (own ++ own1).map (·.2) := fun v hv => by rw [List.map_append]; exact List.mem_append_right _ hv
  (ps_setLc2 hc hN hy hyl (sw_true hk hyl hl ha) hi (blkOk_by ok) hsub (fun s H C cl fp => hg s H C cl fp (bd_blk B)) (fun s H C cl fp => ht s H C cl fp (bd_blk B)) (fun s H C cl fp => hi1 s H C cl fp (bd_blk B)) (fun s H C cl fp => hg1 s H C cl fp (bd_blk B)) (fun s H C cl fp => ht1 s H C cl fp (bd_blk B)) (fun s H C cl fp => he s H C cl fp (bd_blk B)) hs hs1).imp fun D σ H h => by
    obtain ⟨P, G, S, h⟩ := h
    refine tD_lc2 hsub (PostS.bindD S h fun pv G1 v H1 r q => ?_)
    split at q
    · rename_i G2 q1
      obtain ⟨S2, st2⟩ := put_ok r q1
      exact q _ H1 S2 st2
    · exact q.elim
end
theorem cLC2_ap {src src1 : F (List D)} {vs vs1 : List Nat} {g g1 : GF} {t t1 : TF} {f : EF} {G : List Sl} : cLC2 src vs vs1 g t src1 g1 t1 f G = (src G).bind fun ds G1 => if okW G1 vs = true then (lc2Go vs vs1 g t src1 g1 t1 f ds [] G1).bind fun xs G2 => .ok (.fr (.lst xs)) (resG G1 (wipeG G2 vs) vs) else .bad := rfl
end PD

/-! PD45: a dict of the module, text keys -/
namespace PD
open PySem PySem.Spec L2 L2H
abbrev AlX := He.AlD × List (Option (List (Option (Str × Int))))
def TabsX (w : World) (K : PySem.W.Frag) (ts : List (Str × List Str)) : Prop := ts.map (fun t => He.dicW K (He.ga K t.1)) = ts.map fun t => some (He.keysIn w.params t.2)
def obsXT (nm : Nat → Str) (fx : List Fx) (fn : List He5.DefA) (ts : List (Str × List Str)) (K : PySem.W.Frag) : AlX := (obsX nm fx fn K, ts.map fun t => He.dicW K (He.ga K t.1))
def obsXTG (n : Nat) (nm : Nat → Str) (fx : List Fx) (fn : List He5.DefA) (ts : List (Str × List Str)) (g : Addr → Option Obj) : AlX := obsXT nm fx fn ts (He.frG g (He5.asA g n))
def valXT (fn : List He5.DefA) (ts : List (Str × List Str)) (w : World) : AlX := (valX fn, ts.map fun t => some (He.keysIn w.params t.2))
def hookXT (n : Nat) (nm : Nat → Str) (fx : List Fx) (fn : List He5.DefA) (ts : List (Str × List Str)) : PySem.W.Hook where
  α := AlX
  obs := fun s => obsXTG n nm fx fn ts s.heap.get?
  val := fun w => valXT fn ts w
  says := fun w h => ∃ K : PySem.W.Frag, K.In h ∧ SaysX nm fx fn K ∧ TabsX w K ts
  of := fun _ _ e => ⟨_, He.frG_in, congrArg (fun z : AlX => z.1) e, congrArg (fun z : AlX => z.2) e⟩
  keeps := fun _ _ _ ⟨K, hK, c, d⟩ k => ⟨K, PySem.W.Frag.In.keeps hK k, c, d⟩
theorem obsXTG_eq {n : Nat} {nm : Nat → Str} {fx : List Fx} {fn : List He5.DefA} {ts : List (Str × List Str)} {g : Addr → Option Obj} {s : Shared} (h : ∀ a, g a = s.heap.get? a) : obsXTG n nm fx fn ts g = (hookXT n nm fx fn ts).obs s := by
  have e : g = s.heap.get? := funext h
  rw [e] <;> rfl
theorem TabsX.tab {w : World} {K : PySem.W.Frag} {ts : List (Str × List Str)} (h : TabsX w K ts) (i : Nat) {x : Str} {ks : List Str} (hi : ts[i]? = some (x, ks) := by rfl) : He.dicW K (He.ga K x) = some (He.keysIn w.params ks) := by
  have e2 : (ts.map fun t => He.dicW K (He.ga K t.1))[i]? = (ts.map fun t => some (He.keysIn w.params t.2))[i]? := by rw [h]
  rw [List.getElem?_map, List.getElem?_map, hi] at e2
  exact Option.some.inj e2
def dctB (x : Str) (ps : List (Str × D)) (_ : Nat → Str) (K : PySem.W.Frag) : Bool := ps.all fun p => match PySem.W.nsIn K (He.ga K x) p.1 with
  | some (some u) => conV K p.2 u
  | _ => false
def cDc (ps : List (Str × D)) (fb : EF) : EF := fun G => (fb G).bind fun pv G1 => match peek pv G1 with
  | some (.str z) => (match ps.lookup z with
    | some d => .ok (.val d) G1
    | none => .bad)
  | _ => .bad
theorem lookup_memS {α : Type} {l : List (Str × α)} {c : Str} {b : α} (h : l.lookup c = some b) : (c, b) ∈ l := by
  induction l with
  | nil => cases h
  | cons p r ih =>
    obtain ⟨k, v⟩ := p
    rw [List.lookup_cons] at h
    split at h
    · rename_i hk
      cases h
      have : c = k := by simpa using hk
      subst this
      exact List.mem_cons_self
    · exact List.mem_cons_of_mem _ (ih h)
section
variable {e : Ev} {W : WX} {X : Cx} {b : Expr} {fb : EF} {pos xp : Pos} {x : Str}
theorem de_gdct {ps : List (Str × D)} {ks : List Str} (hK : X.K = e.K) (hm : X.mg x = some (.ref (He.ga e.K x))) (hd : He.dicW e.K (He.ga e.K x) = some (He.keysIn X.w.params ks)) (hc : dctB x ps e.nm e.K = true) (hb : PE X b (tD e W fb)) (hg : Gl X x := by rfl) (hdb : (x == ("__debug__" : Str)) = false := by decide) (hs : PlainIx b := by intro _ _; rfl) :
    PE X (.Subscript (.Name x xp) b pos) (tD e W (cDc ps fb)) :=
  (pe_ix ix_kdict (pe_glob (v := .ref (He.ga e.K x)) hg hm rfl hdb) hb hs).imp fun σ H Q h => by
    show tD e W fb σ H fun y H2 => rIxD X.K X.w (.ref (He.ga e.K x)) y H2 Q
    refine tD_then h fun P G Z0 H0 H1 p v r q => ?_
    obtain ⟨S, st, t⟩ := r.tmp
    split at q
    · rename_i z hp
      cases (peek_ok S t hp).str
      split at q
      · rename_i d hl
        have h2 := List.all_eq_true.mp hc (z, d) (lookup_memS hl)
        dsimp only at h2
        split at h2
        · rename_i u hu
          obtain ⟨y, ry, hy⟩ := conV_ok (e := e) d u h2
          obtain ⟨es, n, kd⟩ := He.dicW_ok hd
          exact ⟨_, z, y, rfl, rfl, ⟨es, n, u, hK ▸ kd.at_, kd.lit, hK ▸ hu, ry⟩, q _ _ ⟨S, st, hy _ _⟩⟩
        · cases h2
      · exact q.elim
    · exact q.elim
@[simp] theorem cDc_ap {ps : List (Str × D)} {G : List Sl} : cDc ps fb G = (fb G).bind fun pv G1 => match peek pv G1 with
  | some (.str z) => (match ps.lookup z with
    | some d => .ok (.val d) G1
    | none => .bad)
  | _ => .bad := rfl
end
end PD

/-! PD46: a world by its answer at one row -/
namespace PD
open PySem PySem.Spec
/-- the same world, its answer at the row `special-get-raises` told -/
def wB (w : World) (b : Bool) : World := { w with params := { w.params with followText := fun s => if s = "special-get-raises" then b else w.params.followText s } }
theorem wB_eq (w : World) : w = wB w (w.params.followText "special-get-raises") := by
  have h : w.params.followText = fun s => if s = "special-get-raises" then w.params.followText "special-get-raises" else w.params.followText s := by
    funext s
    by_cases hs : s = "special-get-raises"
    · rw [if_pos hs, hs]
    · rw [if_neg hs]
  unfold wB
  rw [← h]
theorem by_wB {P : World → Prop} (ht : ∀ w, P (wB w true)) (hf : ∀ w, P (wB w false)) (w : World) : P w := by
  rw [wB_eq w]
  cases w.params.followText "special-get-raises"
  · exact hf w
  · exact ht w
end PD

/-! PD47: defs with *rest, star arguments -/
namespace PD
open PySem PySem.Spec PyProof.Rows L2
def spS (e : Ev) (n0 : Nat) (m : MF) : Sp := fun vs H Q E => ∃ ws rest, vs = ws ++ rest ∧ ws.length = n0 ∧ rest.length ≤ sizeLine ∧ ∀ p, H p = none → spD e (n0 + 1) m (ws ++ [V.ref p]) (upd H p (.tup rest)) Q E
def QS_ (Pg : Program) (w : World) (e : Ev) (mg : Str → Option Value) (base : Heap) (k : Nat) (f : Addr) (n0 : Nat) (m : MF) : Prop := FnR Pg w e.K mg base (L2.CX Pg w) k f (spS e n0 m) ∧ PySem.W.keepIn e.K (.ref f) = true
section
variable {e : Ev} {Pg : Program} {w : World} {mg : Str → Option Value} {base : Heap} {x qual pv : Str} {params : Arguments} {body : List Stmt} {scope : Scope} {f : Addr} {fd : FuncData} {N ps : List Str} {k nl : Nat} {fb : SF}
/-- a def with *rest by its body -/
theorem ok_defS (F : FunD e.K x qual params body scope [] [] f fd) (S : FnScope N (ps ++ [pv]) scope) (hN : N.length = (ps ++ [pv]).length + nl)
    (hB : ∀ (kV doc pm : Value) (an : Option Addr) (cdv ct : Value) (us rest : List Value), us.length = ps.length → bindArgs (PySem.W.fnOf x qual params body scope .none kV doc pm an cdv ct) ⟨us ++ rest, []⟩ = (newTuple rest >>= fun t => pure (ps.zip us ++ [(pv, t)])))
    (hb : ∀ (cdv : Value) (A : Around) (outer : List Env) (s : Shared) (H : Hp) (E : XK), Room k (A.deeper (PyProof.Rows.envOfC qual scope s.heap.objs.size f cdv)) →
      Bd e (cxOf (L2.CX Pg w) Pg w e.K mg base N qual scope f cdv A outer s H E) (fun cls d _ H => E cls d H) →
      PSs (cxOf (L2.CX Pg w) Pg w e.K mg base N qual scope f cdv A outer s H E) body (tS e (fun cls d _ H => E cls d H) fb)) :
    QS_ Pg w e mg base (k + 1) f ps.length (mkFn (ps.length + 1) nl fb) := by
  refine ⟨?_, F.kp⟩
  obtain ⟨oc, od, dV, kV, doc, pm, an, cdv, ct, osl, rfl, lk, hcd, hD, hK⟩ := F.ex
  have hD2 : dV = .none := by
    rcases hD with ⟨_, h⟩ | ⟨h, _⟩
    · exact h
    · exact absurd rfl h
  subst hD2
  refine StX.fn_star (sp := spD e (ps.length + 1) (mkFn (ps.length + 1) nl fb)) lk hcd S StX.cxUp (hB kV doc pm an cdv ct) fun A outer s H vs Q E hr h => ?_
  refine ⟨_, hb cdv A outer s H E hr ⟨rfl, takes_of rfl rfl rfl rfl, passes_of rfl, hr.units⟩, ?_⟩
  have hs : L2.start N vs = vs.map some ++ List.replicate nl none := by
    unfold L2.start
    rw [h.1, hN]; simp
  show tS _ _ _ _ (L2.start N vs) H
  rw [hs]
  exact body_of h
end
section
variable {e : Ev} {W : WX} {P : Pre} {σ : L2.St} {G G1 G2 : List Sl} {H H1 H2 : Hp} {X : Cx} {f C : Addr} {k n n0 : Nat} {m : MF} {mds : List Md} {fs fr : AF} {fe : EF} {a : Expr} {es : List Expr} {x : Str} {p pos sp_ : Pos} {Q : VK}
theorem clbS (B : Bd e X W) (q : QS_ X.prog X.w e X.mg X.base k f n0 m) (hr : Room k X.A) : Clb X W f (spS e n0 m) := by
  intro pins s σ H vs us Q I r h
  have hK := B.hK
  have F : FnR X.prog X.w X.K X.mg X.base (L2.CX X.prog X.w) k f (spS e n0 m) := hK ▸ q.1
  refine wpAny_call (codeAny_mono (F X.A X.stack s H us vs Q (WE W σ) hr I.env0 r h) fun r s' hq => ?_)
  cases r with
  | error e => exact passAt B.tk σ pins _ _ e s' I hq
  | ok fl =>
    cases fl with
    | ret u => exact I.after hq
    | next => exact False.elim hq
    | brk => exact False.elim hq
    | cont => exact False.elim hq
theorem clbMkS (B : Bd e X W) (M : Mk e.K C f) (q : QS_ X.prog X.w e X.mg X.base k f 1 m) (hr : Room (k + 1) X.A) : ClbMk X W C (spS e 1 m) := by
  intro pins s σ H vs us Q I r h
  have hK := B.hK
  have F : FnR X.prog X.w X.K X.mg X.base (L2.CX X.prog X.w) k f (spS e 1 m) := hK ▸ q.1
  have M : Mk X.K C f := hK ▸ M
  have hq := h (s.heap.objs.size + 1) s.heap.objs.size (I.hok.fresh (Nat.le_succ _)) (I.hok.fresh (Nat.le_refl _)) (Nat.ne_of_lt (Nat.lt_succ_self _))
  have I2 := Inv.made (C := C) I
  have r2 : Vals (V.ref (s.heap.objs.size + 1) :: vs) (Value.ref (s.heap.objs.size + 1) :: us) := .cons rfl r
  refine wpAny_call (make_map (f := f) I.kIn M.makes M.init (beq_iff_eq.mp M.fn) (codeAny_mono (F _ X.stack _ _ (Value.ref (s.heap.objs.size + 1) :: us) _ _ (WE W σ) (hr.make C us []) (I2.env0.make C us []) r2 hq) fun r s' hq' => ?_))
  cases r with
  | error e => exact passAt B.tk σ pins _ _ e s' I2 hq'
  | ok fl =>
    cases fl with
    | ret u =>
      obtain ⟨v, H', I3, rv, ev, q3⟩ := I2.after hq'
      subst ev
      exact ⟨rv, ⟨V.ref (s.heap.objs.size + 1), H', I3, rfl, q3⟩⟩
    | next => exact False.elim hq'
    | brk => exact False.elim hq'
    | cont => exact False.elim hq'
/-- f(a, ..), f's parameters all in *rest -/
def callS (m : MF) (ps : List PV) : EF := fun G1 => match escs ps G1 with
  | some (ds, G2) => if ds.length ≤ 1000 then runC m [.b] [.val (.tup ds)] G2 else .bad
  | none => .bad
def cCallS (m : MF) (fs : AF) : EF := fun G => (fs G).bind fun ps G1 => callS m ps G1
theorem callS_ok {Z0 : Zo} {H0 : Hp} {ps : List PV} {vs : List V} (S : Sat e P G σ H) (st : Step Z0 H0 (Zn P G σ) H) (t : Tmps e P σ G H ps vs)
    (q : PostR e W P σ Z0 H0 (fun pv G2 => ∀ v H2, Res e P σ Z0 H0 pv G2 v H2 → Q v H2) (callS m ps G)) : spS e 0 m vs H Q (WE W σ) := by
  unfold callS at q
  split at q
  · rename_i ds G2 q1
    obtain ⟨S1, st1, r1⟩ := escs_ok S t q1
    split at q
    · rename_i hl
      refine ⟨[], vs, rfl, rfl, by rw [r1.length, sizeLine_eq]; omega, fun p hp => ?_⟩
      have zl : ∀ a, Zn P G2 σ a → H a ≠ none := fun a z => S1.zlive z
      have rr := (Out.newT zl hp r1).res S1 |>.from_ (st.trans st1)
      obtain ⟨S2, st2, r2⟩ := rr
      exact runC_ok S2 (ps := [.val (.tup ds)]) (vs := [.ref p]) ⟨_, _, rfl, r2, rfl⟩ st2 rfl q
    · exact q.elim
  · exact q.elim
theorem tD_callS (h : tD e W (cCallS m fs) σ H Q) : tA e W fs σ H fun vs H1 => spS e 0 m vs H1 Q (WE W σ) :=
  tA_then h fun P G Z0 H0 H ps vs S st t q => callS_ok S st t q
theorem de_callS (c : Clb X W f (spS e 0 m)) (hg : Gl X x) (hm : X.mg x = some (.ref f)) (hk : PySem.W.keepIn X.K (.ref f) = true) (ha : PA X (a :: es) (tA e W fs)) (hdb : (x == ("__debug__" : Str)) = false := by decide)
    (he : starEach (a :: es) X.env = (false, eval a X.env) :: starEach es X.env := by rfl) (hpl : (backTo pos (starEach es X.env)).any (·.1) = false := by rfl) : PE X (.Call (.Name x p) (a :: es) [] pos) (tD e W (cCallS m fs)) := by
  refine ⟨fun pins s σ H Q I h => ?_⟩
  refine wpAny_Call_Name_kw (ld_glob I hg hm ?_ hdb)
  refine PySem.W.callWith_K (h₀ := X.base) I.ok.mod.kin hk (thn (ha.run pos pins s σ H _ I (tD_callS h)) fun us s1 ⟨vs, H1, I1, r, q⟩ => ⟨I1.kIn, ?_⟩) he hpl
  exact c pins s1 σ H1 vs us Q I1 r q
/-- f() -/
theorem de_callS0 (c : Clb X W f (spS e 0 m)) (hg : Gl X x) (hm : X.mg x = some (.ref f)) (hk : PySem.W.keepIn X.K (.ref f) = true) (hdb : (x == ("__debug__" : Str)) = false := by decide) : PE X (.Call (.Name x p) [] [] pos) (tD e W (cCallS m aNil)) := by
  refine ⟨fun pins s σ H Q I h => ?_⟩
  refine wpAny_Call_Name_kw (ld_glob I hg hm ?_ hdb)
  obtain ⟨P, G, S, h⟩ := h
  exact PySem.W.callWith_K0 I.kIn hk (c pins s σ H [] [] Q I .nil (callS_ok (ps := []) S (Step.refl _ _) (show Tmps e P σ G H [] [] from rfl) h))
/-! ### C(a, ..), C(*xs): all in *rest -/
theorem make_ok {c : Nat} {ps : List PV} {vs : List V} {Z0 : Zo} {H0 : Hp} (hn : mds.length + 1 = n) (S : Sat e P G σ H) (st : Step Z0 H0 (Zn P G σ) H) (t : Tmps e P σ G H ps vs)
    (q : PostR e W P σ Z0 H0 (fun pv G2 => ∀ v H2, Res e P σ Z0 H0 pv G2 v H2 → Q v H2) (finM (runC m (.m :: mds) (.sl G.length :: ps) (G ++ [.own (.obj c [] [])])))) : ∀ x dx, H x = none → H dx = none → dx ≠ x →
    spD e n m (.ref x :: vs) (upd (upd H dx (.own x)) x (.ins (e.ga c) dx [])) (fun v H2 => v = .non ∧ Q (.ref x) H2) (WE W σ) := by
    intro x dx hx hdx ne
    have gr : Grow H (upd (upd H dx (.own x)) x (.ins (e.ga c) dx [])) := fun a o h => by
      rw [upd_ne (ne_of_none h hx), upd_ne (ne_of_none h hdx)]; exact h
    have hA : At e (fun a => Zn P G σ a ∨ a = x) (upd (upd H dx (.own x)) x (.ins (e.ga c) dx [])) (.obj c [] []) x := ⟨dx, [], upd_same, rfl, rfl⟩
    have S1 := S.push gr hx hA
    have stz : Step (Zn P G σ) H (Zn P (G ++ [.own (.obj c [] [])]) (σ ++ [some (.ref x)])) (upd (upd H dx (.own x)) x (.ins (e.ga c) dx [])) := step_grow gr fun a ha z => by
      rcases z with z | ⟨i, d', h1, h2⟩
      · exact .inl z
      · by_cases hi : i < G.length
        · rw [List.getElem?_append_left hi] at h1
          rw [List.getElem?_append_left (S.len ▸ hi)] at h2
          exact .inr ⟨i, d', h1, h2⟩
        · have hi2 : i = G.length := by
            have := (List.getElem?_eq_some_iff.mp h1).1
            simp at this; omega
          subst hi2
          rw [S.len] at h2
          simp at h2
          subst h2
          exact absurd hx ha
    have t1 : Tmps e P (σ ++ [some (.ref x)]) (G ++ [.own (.obj c [] [])]) (upd (upd H dx (.own x)) x (.ins (e.ga c) dx [])) (.sl G.length :: ps) (.ref x :: vs) := ⟨_, _, rfl, by rw [S.len]; simp [Tmp], t.push stz⟩
    have st1 := st.trans stz
    refine runC_ok (W := fun cls d _ H => W cls d σ H) (mds := .m :: mds) (n := n) S1 t1 st1 (by simpa using hn) ?_
    cases hr : runC m (.m :: mds) (.sl G.length :: ps) (G ++ [.own (.obj c [] [])]) with
    | bad => rw [hr] at q; exact q.elim
    | ok pv G2 =>
      rw [hr] at q
      have q' : PostR e W P σ Z0 H0 (fun pv G2 => ∀ v H2, Res e P σ Z0 H0 pv G2 v H2 → Q v H2) (finM (.ok pv G2)) := q
      intro v H1 r
      unfold finM at q'
      split at q'
      · rename_i e1
        cases e1
        obtain ⟨SB, stB, rfl⟩ := r
        refine ⟨rfl, ?_⟩
        split at q'
        · rename_i d q1
          have eG := dropLast_eq q1
          rw [eG] at SB stB
          exact q' _ H1 ⟨x, rfl, SB, stB⟩
        · exact q'.elim
      · rename_i e1; cases e1
      · exact q'.elim
    | ex c1 ns ds G2 =>
      rw [hr] at q
      intro cls d H1 SB stB r
      obtain ⟨s, eG⟩ := SB.dropLast'
      rw [eG] at SB stB r
      have lG : G2.dropLast.length = σ.length := by have := SB.len; simpa using this
      exact q cls d H1 SB.dropLast (stB.zone (SB.zn_drop lG)) (r.zone (SB.zn_drop lG))
def makeS (c : Nat) (m : MF) (ps : List PV) : EF := fun G1 => match escs ps G1 with
  | some (ds, G2) => if ds.length ≤ 1000 then finM (runC m [.m, .b] [.sl G2.length, .val (.tup ds)] (G2 ++ [.own (.obj c [] [])])) else .bad
  | none => .bad
def cMakeS (c : Nat) (m : MF) (fs : AF) : EF := fun G => (fs G).bind fun ps G1 => makeS c m ps G1
theorem makeS_ok {c : Nat} {Z0 : Zo} {H0 : Hp} {ps : List PV} {vs : List V} (S : Sat e P G σ H) (st : Step Z0 H0 (Zn P G σ) H) (t : Tmps e P σ G H ps vs)
    (q : PostR e W P σ Z0 H0 (fun pv G2 => ∀ v H2, Res e P σ Z0 H0 pv G2 v H2 → Q v H2) (makeS c m ps G)) : ∀ x dx, H x = none → H dx = none → dx ≠ x →
    spS e 1 m (.ref x :: vs) (upd (upd H dx (.own x)) x (.ins (e.ga c) dx [])) (fun v H2 => v = .non ∧ Q (.ref x) H2) (WE W σ) := by
  intro x dx hx hdx ne
  unfold makeS at q
  split at q
  · rename_i ds G2 q1
    obtain ⟨S1, st1, r1⟩ := escs_ok S t q1
    split at q
    · rename_i hl
      refine ⟨[.ref x], vs, rfl, rfl, by rw [r1.length, sizeLine_eq]; omega, fun p hp => ?_⟩
      have hpx : p ≠ x := by
        rintro rfl
        rw [upd_same] at hp; cases hp
      rw [upd_ne hpx] at hp
      have hpd : p ≠ dx := by
        rintro rfl
        rw [upd_same] at hp; cases hp
      rw [upd_ne hpd] at hp
      have zl : ∀ a, Zn P G2 σ a → H a ≠ none := fun a z => S1.zlive z
      have rr := (Out.newT zl hp r1).res S1 |>.from_ (st.trans st1)
      obtain ⟨S2, st2, r2⟩ := rr
      have := make_ok (mds := [.b]) (n := 2) (ps := [.val (.tup ds)]) (vs := [.ref p]) rfl S2 st2 ⟨_, _, rfl, r2, rfl⟩ q x dx (by rw [upd_ne hpx.symm]; exact hx) (by rw [upd_ne hpd.symm]; exact hdx) ne
      have eH : upd (upd (upd H dx (.own x)) x (.ins (e.ga c) dx [])) p (.tup vs) = upd (upd (upd H p (.tup vs)) dx (.own x)) x (.ins (e.ga c) dx []) := by
        funext b
        by_cases h1 : b = p
        · subst h1
          rw [upd_same, upd_ne hpx, upd_ne hpd, upd_same]
        · rw [upd_ne h1]
          by_cases h2 : b = x
          · subst h2; rw [upd_same, upd_same]
          · rw [upd_ne h2, upd_ne h2]
            by_cases h3 : b = dx
            · subst h3; rw [upd_same, upd_same]
            · rw [upd_ne h3, upd_ne h3, upd_ne h1]
      rw [eH]
      exact this
    · exact q.elim
  · exact q.elim
theorem tD_makeS {c : Nat} (h : tD e W (cMakeS c m fs) σ H Q) : tA e W fs σ H fun vs H1 => ∀ x dx, H1 x = none → H1 dx = none → dx ≠ x →
    spS e 1 m (.ref x :: vs) (upd (upd H1 dx (.own x)) x (.ins (e.ga c) dx [])) (fun v H2 => v = .non ∧ Q (.ref x) H2) (WE W σ) :=
  tA_then h fun P G Z0 H0 H ps vs S st t q => makeS_ok S st t q
/-! ### *e -/
def aStar (fe : EF) (fr : AF) : AF := fun G => (fe G).bind fun pv G1 => match peek pv G1 with
  | some (.lst ds) => (fr G1).bind fun ps G2 => .ok (ds.map .val ++ ps) G2
  | some (.tup ds) => (fr G1).bind fun ps G2 => .ok (ds.map .val ++ ps) G2
  | _ => .bad
theorem tmps_vals : ∀ {ds : List D} {vs : List V}, Rps e (Zn P G σ) H ds vs → Tmps e P σ G H (ds.map .val) vs
  | [], _, h => h
  | d :: ds, _, h => by
    obtain ⟨v, r, rfl, h1, h2⟩ := h
    exact ⟨v, r, rfl, h1, tmps_vals h2⟩
theorem tmps_app : ∀ {ps qs : List PV} {vs ws : List V}, Tmps e P σ G H ps vs → Tmps e P σ G H qs ws → Tmps e P σ G H (ps ++ qs) (vs ++ ws)
  | [], _, _, _, h, h2 => by cases h; exact h2
  | p :: ps, _, _, _, h, h2 => by
    obtain ⟨v, r, rfl, a, b⟩ := h
    exact ⟨v, _, rfl, a, tmps_app b h2⟩
theorem tA_star (hK : X.K = e.K) {Q : List V → Hp → Prop} (h : tA e W (aStar fe fr) σ H Q) : StX.tStar X.K (tD e W fe) (tA e W fr) σ H Q := by
  obtain ⟨P, G, S, h⟩ := h
  refine tD_at S (Step.refl _ _) (h.bind.mono (fun p G1 h v H1 r => ?_) fun _ _ s => s)
  obtain ⟨S1, st1, t1⟩ := r.tmp
  have go : ∀ {ds : List D} {xs : List V}, Rps e (Zn P G1 σ) H1 ds xs → PostR e W P σ (Zn P G σ) H (fun ps G1 => ∀ vs H1, Sat e P G1 σ H1 → Step (Zn P G σ) H (Zn P G1 σ) H1 → Tmps e P σ G1 H1 ps vs → Q vs H1) ((fr G1).bind fun ps G2 => .ok (ds.map .val ++ ps) G2) →
      tA e W fr σ H1 fun ys H2 => Q (xs ++ ys) H2 := fun r2 h => by
    refine tA_at S1 st1 (h.bind.mono (fun ps G2 h vs H2 S2 st2 t2 => ?_) fun _ _ s => s)
    exact h _ H2 S2 (st1.trans st2) (tmps_app ((tmps_vals r2).step st2) t2)
  split at h
  · rename_i ds hp
    obtain ⟨a, xs, rfl, h1, h2⟩ := (peek_ok S1 t1 hp).lst
    exact ⟨a, xs, rfl, .inr (SqL.of h1), go h2 h⟩
  · rename_i ds hp
    obtain ⟨a, xs, rfl, h1, h2⟩ := (peek_ok S1 t1 hp).tup
    exact ⟨a, xs, rfl, .inl (hK ▸ h1), go h2 h⟩
  · exact h.elim
theorem da_star (hK : X.K = e.K) (he : PE X a (tD e W fe)) (hr : PA X es (tA e W fr)) (hs : starEach (.Starred a p :: es) X.env = (true, eval a X.env) :: starEach es X.env := by rfl) : PA X (.Starred a p :: es) (tA e W (aStar fe fr)) :=
  (StX.pa_star he hr hs).imp fun σ H Q h => tA_star hK h
theorem de_makeS1 {c : Nat} (cb : ClbMk X W (e.ga c) (spS e 1 m)) (hK : X.K = e.K) (hg : Gl X x) (hm : X.mg x = some (.ref (e.ga c))) (hk : PySem.W.keepIn X.K (.ref (e.ga c)) = true) (he : PE X a (tD e W fe)) (hdb : (x == ("__debug__" : Str)) = false := by decide)
    (hst : starEach [.Starred a sp_] X.env = [(true, eval a X.env)] := by rfl) : PE X (.Call (.Name x p) [.Starred a sp_] [] pos) (tD e W (cMakeS c m (aStar fe aNil))) := by
  refine ⟨fun pins s σ H Q I h => ?_⟩
  refine wpAny_Call_Name_kw (ld_glob I hg hm ?_ hdb)
  have h2 := tA_star hK (tD_makeS h)
  refine PySem.W.callWith_S (h₀ := X.base) I.ok.mod.kin hk (thn (he.run pins s σ H _ I h2) fun v s1 ⟨y, H1, I1, ry, q⟩ => ?_) hst
  obtain ⟨a, xs, ey, hxs, q⟩ := q
  subst ey
  obtain rfl : v = Value.ref a := ry
  refine StX.star_any I1 hxs fun us s2 I2 rv => ⟨I2.kIn, ?_⟩
  obtain ⟨P, G, S, q⟩ := q
  have q := q [] H1 S (Step.refl _ _) rfl
  dsimp only at q
  rw [List.append_nil] at q
  exact cb pins s2 σ H1 xs us Q I2 rv q
end
end PD
namespace PD
open PySem PySem.Spec PyProof.Rows L2
/-! ### C.f, a class's whole number -/
def cvB (c : Nat) (f : Str) (i : Int) (nm : Nat → Str) (K : PySem.W.Frag) : Bool := PySem.W.readsIn K (He.ga K (nm c)) (.type "type") && (decide (PySem.W.specialIn K (.ref (He.ga K (nm c))) "__getattribute__" = some (some (.builtin "type.__getattribute__"))) &&
  (match PySem.W.findCls K (.ref (He.ga K (nm c))) (.type "type") f with
    | some (.val u) => He.relB (V.int i) u
    | _ => false))
theorem de_cval {e : Ev} {W : WX} {X : Cx} {c : Nat} {f : Str} {i : Int} {o : Expr} {pos : Pos} (h : cvB c f i e.nm e.K = true) (hK : X.K = e.K) (ho : PE X o (tD e W (cC (.st c)))) (hb : attributeBase o f X.env (eval o X.env) = eval o X.env := by rfl) : PE X (.Attribute o f pos) (tD e W (cC (.int i))) :=
  (ClX.pe_cval ho hb).imp fun σ H Q q => by
    obtain ⟨h1, h⟩ := He.ba h
    obtain ⟨h2, h3⟩ := He.ba h
    split at h3
    · rename_i u hu
      obtain ⟨P, G, S, q⟩ := q
      refine ⟨P, G, S, fun v H1 r => ?_⟩
      obtain ⟨S1, st1, rv⟩ := r
      exact ⟨e.ga c, .type "type", .int i, u, rv, ⟨hK ▸ h1, hK ▸ of_decide_eq_true h2⟩, ⟨hK ▸ hu, He.relB_ok h3⟩, q _ H1 ⟨S1, st1, rfl⟩⟩
    · cases h3
end PD

/-! PD48: star calls, by simp -/
namespace PD
open PySem PySem.Spec L2
@[simp] theorem cCallS_ap {m : MF} {fs : AF} {G : List Sl} : cCallS m fs G = (fs G).bind fun ps G1 => callS m ps G1 := rfl
@[simp] theorem callS_ap {m : MF} {ps : List PV} {G1 : List Sl} : callS m ps G1 = match escs ps G1 with
  | some (ds, G2) => if ds.length ≤ 1000 then runC m [.b] [.val (.tup ds)] G2 else .bad
  | none => .bad := rfl
@[simp] theorem cMakeS_ap {c : Nat} {m : MF} {fs : AF} {G : List Sl} : cMakeS c m fs G = (fs G).bind fun ps G1 => makeS c m ps G1 := rfl
@[simp] theorem makeS_ap {c : Nat} {m : MF} {ps : List PV} {G1 : List Sl} : makeS c m ps G1 = match escs ps G1 with
  | some (ds, G2) => if ds.length ≤ 1000 then finM (runC m [.m, .b] [.sl G2.length, .val (.tup ds)] (G2 ++ [.own (.obj c [] [])])) else .bad
  | none => .bad := rfl
@[simp] theorem aStar_ap {fe : EF} {fr : AF} {G : List Sl} : aStar fe fr G = (fe G).bind fun pv G1 => match peek pv G1 with
  | some (.lst ds) => (fr G1).bind fun ps G2 => .ok (ds.map .val ++ ps) G2
  | some (.tup ds) => (fr G1).bind fun ps G2 => .ok (ds.map .val ++ ps) G2
  | _ => .bad := rfl
theorem escs_vals {ds : List D} {G : List Sl} : escs (ds.map .val) G = some (ds, G) := by
  induction ds with
  | nil => rfl
  | cons d ds ih =>
    show (match esc (.val d) G with
      | some (d, G1) => (match escs (ds.map .val) G1 with
        | some (ds, G2) => some (d :: ds, G2)
        | none => none)
      | none => none) = _
    show (match escs (ds.map .val) G with
        | some (ds, G2) => some (d :: ds, G2)
        | none => none) = _
    rw [ih]
@[simp] theorem escs_vals_map {α : Type} {f : α → D} {ds : List α} {G : List Sl} : escs (ds.map fun a => PV.val (f a)) G = some (ds.map f, G) := by
  rw [← escs_vals (ds := ds.map f), List.map_map]; rfl
end PD

/-! PD49: C(a, ..), C(), o.m(a, ..) with all in *rest; a property -/
namespace PD
open PySem PySem.Spec PyProof.Rows L2
section
variable {e : Ev} {W : WX} {P : Pre} {σ : L2.St} {G G1 G2 : List Sl} {H H1 H2 : Hp} {X : Cx} {f C : Addr} {k n n0 : Nat} {m : MF} {mds : List Md} {fs fr : AF} {fe fo : EF} {a o : Expr} {es : List Expr} {x : Str} {p pos apos : Pos} {Q : VK}
theorem de_makeS {c : Nat} (cb : ClbMk X W (e.ga c) (spS e 1 m)) (hg : Gl X x) (hm : X.mg x = some (.ref (e.ga c))) (hk : PySem.W.keepIn X.K (.ref (e.ga c)) = true) (ha : PA X (a :: es) (tA e W fs)) (hdb : (x == ("__debug__" : Str)) = false := by decide)
    (he : starEach (a :: es) X.env = (false, eval a X.env) :: starEach es X.env := by rfl) (hpl : (backTo pos (starEach es X.env)).any (·.1) = false := by rfl) : PE X (.Call (.Name x p) (a :: es) [] pos) (tD e W (cMakeS c m fs)) := by
  refine ⟨fun pins s σ H Q I h => ?_⟩
  refine wpAny_Call_Name_kw (ld_glob I hg hm ?_ hdb)
  refine PySem.W.callWith_K (h₀ := X.base) I.ok.mod.kin hk (thn (ha.run pos pins s σ H _ I (tD_makeS h)) fun us s1 ⟨vs, H1, I1, r, q⟩ => ⟨I1.kIn, ?_⟩) he hpl
  exact cb pins s1 σ H1 vs us Q I1 r q
theorem de_makeS0 {c : Nat} (cb : ClbMk X W (e.ga c) (spS e 1 m)) (hg : Gl X x) (hm : X.mg x = some (.ref (e.ga c))) (hk : PySem.W.keepIn X.K (.ref (e.ga c)) = true) (hdb : (x == ("__debug__" : Str)) = false := by decide) : PE X (.Call (.Name x p) [] [] pos) (tD e W (cMakeS c m aNil)) := by
  refine ⟨fun pins s σ H Q I h => ?_⟩
  refine wpAny_Call_Name_kw (ld_glob I hg hm ?_ hdb)
  obtain ⟨P, G, S, h⟩ := h
  exact PySem.W.callWith_K0 I.kIn hk (cb pins s σ H [] [] Q I .nil (makeS_ok (ps := []) S (Step.refl _ _) (show Tmps e P σ G H [] [] from rfl) h))
/-- C() by a local of the class -/
def methS (m : MF) (p : PV) (ps : List PV) : EF := fun G1 => match escs ps G1 with
  | some (ds, G2) => if ds.length ≤ 1000 then runC m [.b, .b] [p, .val (.tup ds)] G2 else .bad
  | none => .bad
theorem methS_ok {Z0 : Zo} {H0 : Hp} {p : PV} {v : V} {ps : List PV} {vs : List V} (S : Sat e P G σ H) (st : Step Z0 H0 (Zn P G σ) H) (t0 : Tmp e P σ G H p v) (t : Tmps e P σ G H ps vs)
    (q : PostR e W P σ Z0 H0 (fun pv G2 => ∀ v H2, Res e P σ Z0 H0 pv G2 v H2 → Q v H2) (methS m p ps G)) : spS e 1 m (v :: vs) H Q (WE W σ) := by
  unfold methS at q
  split at q
  · rename_i ds G2 q1
    obtain ⟨S1, st1, r1⟩ := escs_ok S t q1
    split at q
    · rename_i hl
      refine ⟨[v], vs, rfl, rfl, by rw [r1.length, sizeLine_eq]; omega, fun a hp => ?_⟩
      have zl : ∀ a, Zn P G2 σ a → H a ≠ none := fun a z => S1.zlive z
      have rr := (Out.newT zl hp r1).res S1
      obtain ⟨S2, st2, r2⟩ := rr
      have t1 : Tmps e P σ G2 H [p] [v] := ⟨v, [], rfl, t0.step st1, rfl⟩
      have t2 := t1.step st2
      obtain ⟨_, _, hv, t3, _⟩ := t2
      cases hv
      exact runC_ok S2 (ps := [p, .val (.tup ds)]) (vs := [v, .ref a]) ⟨_, _, rfl, t3, _, _, rfl, r2, rfl⟩ ((st.trans st1).trans st2) rfl q
    · exact q.elim
  · exact q.elim
def cMethS (c mn : Nat) (m : MF) (fo : EF) (fs : AF) : EF := fun G => (fo G).bind fun p G1 => match peek p G1 with
  | some (.obj c' ns _) => if c' = c ∧ ns.contains mn = false then (fs G1).bind fun ps G2 => methS m p ps G2 else .bad
  | _ => .bad
theorem tD_methS {c mn : Nat} (h : tD e W (cMethS c mn m fo fs) σ H Q) :
    tD e W fo σ H fun x H1 => ∃ a dx gs, x = .ref a ∧ H1 a = some (.ins (e.ga c) dx gs) ∧ gs.lookup (e.nm mn) = none ∧ tA e W fs σ H1 fun vs H2 => spS e 1 m (x :: vs) H2 Q (WE W σ) := by
  refine tD_then h fun P G Z0 H0 H pv v r q => ?_
  obtain ⟨S1, st1, t1⟩ := r.tmp
  split at q
  · rename_i c' ns ds p1
    obtain ⟨a, dx, gs, rfl, h1, h2, h3⟩ := (peek_ok S1 t1 p1).obj
    split at q
    · rename_i hc
      obtain ⟨rfl, hns⟩ := hc
      refine ⟨a, dx, gs, rfl, h1, lkN_none h2 (by simpa using hns), ?_⟩
      refine tA_at S1 st1 (q.bind.mono (fun ps G2 q vs H2 S2 st2 t2 => ?_) fun _ _ s => s)
      exact methS_ok S2 (st1.trans st2) (t1.step st2) t2 q
    · exact q.elim
  · exact q.elim
theorem de_methS {c mn : Nat} {pl : Sem Bool} (cb : Clb X W f (spS e 1 m)) (hK : X.K = e.K) (cl : Cls e.K (e.ga c)) (hm : Meth e.K (e.ga c) (e.nm mn) f) (hx : x = e.nm mn) (ho : PE X o (tD e W fo)) (ha : PA X (a :: es) (tA e W fs))
    (hst : starEach (a :: es) X.env = (false, eval a X.env) :: starEach es X.env := by rfl) (hpl : (backTo pos (starEach es X.env)).any (·.1) = false := by rfl)
    (ht : eval (.Call (.Attribute o x apos) (a :: es) [] pos) X.env = (do
      let ov ← eval o X.env
      standAt apos.atName
      let (f, first) ← holding [ov] (getMethod ov x pl)
      callWith pos f first (backTo pos (starEach (a :: es) X.env)) (backToKw pos (keywordEach [] X.env))) := by rfl) :
    PE X (.Call (.Attribute o x apos) (a :: es) [] pos) (tD e W (cMethS c mn m fo fs)) := by
  refine ⟨fun pins s σ H Q I h => ?_⟩
  subst hx
  refine PySem.W.methodCall_KW (pl := pl) (thn (ho.run pins s σ H _ I (tD_methS h)) fun u s1 ⟨x, H1, I1, rx, a, dx, gs, ex, ea, l, q⟩ => ?_) ht
  subst ex
  obtain rfl : u = Value.ref a := rx
  refine getmeth_ok I1 ea (hK ▸ cl) (hK ▸ hm) l ?_
  refine PySem.W.callWith_K (first := [.ref a]) (h₀ := X.base) I.ok.mod.kin (hK ▸ hm.kp) (thn (ha.run pos pins s1 σ H1 _ I1 q) fun us s2 ⟨vs, H2, I2, r, q2⟩ => ⟨I2.kIn, ?_⟩) hst hpl
  exact cb pins s2 σ H2 (.ref a :: vs) (.ref a :: us) Q I2 (.cons rfl r) q2
theorem de_methS0 {c mn : Nat} {pl : Sem Bool} (cb : Clb X W f (spS e 1 m)) (hK : X.K = e.K) (cl : Cls e.K (e.ga c)) (hm : Meth e.K (e.ga c) (e.nm mn) f) (hx : x = e.nm mn) (ho : PE X o (tD e W fo))
    (ht : eval (.Call (.Attribute o x apos) [] [] pos) X.env = (do
      let ov ← eval o X.env
      standAt apos.atName
      let (f, first) ← holding [ov] (getMethod ov x pl)
      callWith pos f first (backTo pos (starEach [] X.env)) (backToKw pos (keywordEach [] X.env))) := by rfl) :
    PE X (.Call (.Attribute o x apos) [] [] pos) (tD e W (cMethS c mn m fo aNil)) := by
  refine ⟨fun pins s σ H Q I h => ?_⟩
  subst hx
  refine PySem.W.methodCall_KW (pl := pl) (thn (ho.run pins s σ H _ I (tD_methS h)) fun u s1 ⟨x, H1, I1, rx, a, dx, gs, ex, ea, l, q⟩ => ?_) ht
  subst ex
  obtain rfl : u = Value.ref a := rx
  refine getmeth_ok I1 ea (hK ▸ cl) (hK ▸ hm) l ?_
  have q' : spS e 1 m [.ref a] H1 Q (WE W σ) := by
    obtain ⟨P, G, S, q⟩ := q
    exact q [] H1 S (Step.refl _ _) rfl
  exact PySem.W.callWith_K0 (first := [.ref a]) I1.kIn (hK ▸ hm.kp) (cb pins s1 σ H1 [.ref a] [.ref a] Q I1 (.cons rfl .nil) q')
@[simp] theorem cMethS_ap {c mn : Nat} : cMethS c mn m fo fs G = (fo G).bind fun p G1 => match peek p G1 with
  | some (.obj c' ns _) => if c' = c ∧ ns.contains mn = false then (fs G1).bind fun ps G2 => methS m p ps G2 else .bad
  | _ => .bad := rfl
@[simp] theorem methS_ap {p : PV} {ps : List PV} : methS m p ps G1 = match escs ps G1 with
  | some (ds, G2) => if ds.length ≤ 1000 then runC m [.b, .b] [p, .val (.tup ds)] G2 else .bad
  | none => .bad := rfl
/-! ### o.f, a property -/
def noE (r : R PV) : R PV := match r with
  | .ok pv G => .ok pv G
  | _ => .bad
theorem noE_ok {W2 : WX} {Z0 : Zo} {H0 : Hp} {Q : PV → List Sl → Prop} {r : R PV} (h : PostR e W P σ Z0 H0 Q (noE r)) : PostR e W2 P σ Z0 H0 Q r := by
  cases r with
  | ok pv G => exact h
  | bad => exact h.elim
  | ex c ns ds G => exact h.elim
def cProp (c : Nat) (m : MF) (fo : EF) : EF := fun G => (fo G).bind fun p G1 => if obC c p G1 = true then noE (runC m [.b] [p] G1) else .bad
theorem tD_prop {c : Nat} (h : tD e W (cProp c m fo) σ H Q) : tD e W fo σ H fun x H1 => InsR e c H1 x ∧ spD e 1 m [x] H1 Q (fun _ _ _ => False) := by
  refine tD_then h fun P G Z0 H0 H1 p v r q => ?_
  obtain ⟨S, st, t⟩ := r.tmp
  split at q
  · rename_i hob
    exact ⟨obC_ok S t hob, runC_ok (W := fun _ _ _ _ => False) (mds := [.b]) S (ps := [p]) (vs := [v]) ⟨_, _, rfl, t, rfl⟩ st rfl (noE_ok q)⟩
  · exact q.elim
def propB (c : Nat) (f : Str) (nm : Nat → Str) (K : PySem.W.Frag) : Bool := decide (PySem.W.findIn K (.ref (He.ga K (nm c))) f = some (some (.ref (He.ma K (He.ga K (nm c)) f)))) && (decide (PySem.W.specialIn K (.ref (He.ma K (He.ga K (nm c)) f)) "__get__" = some (some (.builtin "property.__get__"))) &&
  (decide (PySem.W.takesIn K (.ref (He.ma K (He.ga K (nm c)) f)) = some true) && (match PySem.W.recIn K (He.ma K (He.ga K (nm c)) f) "property" with
    | some (.ref g :: _) => decide (g = He5.wf K (He.ga K (nm c)) "property" f)
    | _ => false)))
theorem prop_ok {c : Nat} {f : Str} (h : propB c f e.nm e.K = true) : PropOf e.K (e.ga c) f (He.ma e.K (e.ga c) f) (He5.wf e.K (e.ga c) "property" f) := by
  obtain ⟨h1, h⟩ := He.ba h
  obtain ⟨h2, h⟩ := He.ba h
  obtain ⟨h3, h4⟩ := He.ba h
  refine ⟨of_decide_eq_true h1, of_decide_eq_true h2, of_decide_eq_true h3, ?_⟩
  split at h4
  · rename_i g r hr
    have := of_decide_eq_true h4
    subst this
    exact ⟨r, hr⟩
  · cases h4
theorem de_prop {c k : Nat} {g pa : Addr} {fl : Str} {ps : List Str} (B : Bd e X W) (cl : Cls e.K (e.ga c)) (hp : PropOf e.K (e.ga c) fl pa g) (q : Q_ X.prog X.w e X.mg X.base k g ps 1 m) (hr : Room (k + 1) X.A) (ho : PE X o (tD e W fo)) (hab : attributeBase o fl X.env (eval o X.env) = eval o X.env := by rfl) :
    PE X (.Attribute o fl pos) (tD e W (cProp c m fo)) := by
  refine ⟨fun pins s σ H Q I h => ?_⟩
  have hK := B.hK
  obtain ⟨fd, F, b, _⟩ := q
  refine attr_of hab (thn (ho.run pins s σ H _ I (tD_prop h)) fun u s1 ⟨x, H1, I1, rx, ⟨a, dx, fs, ex, ea⟩, q⟩ => ?_)
  subst ex
  obtain rfl : u = Value.ref a := rx
  exact getprop_ok (dvs := []) (ds := []) I1 ea (hK ▸ cl) (hK ▸ hp) (hK ▸ F) hr (hK ▸ b) .nil (E := fun _ _ _ => False) (by
    rintro pins σ H s e s' I ⟨a, B, H', cls, d, ea, fl, hok, ub, na, os, ag, he⟩
    exact he.elim) q
@[simp] theorem cProp_ap {c : Nat} : cProp c m fo G = (fo G).bind fun p G1 => if obC c p G1 = true then noE (runC m [.b] [p] G1) else .bad := rfl
@[simp] theorem noE_okr {pv : PV} : noE (.ok pv G) = .ok pv G := rfl
end
end PD

/-! PD50: x op y, y of another own class that has no such operator -/
namespace PDk
open Lean Elab Tactic Meta PySem PySem.W PySem.Calls PyProof.Rows
section
variable {prog : Program} {w : World} {M : Model} {A : Around} {E : Value → Shared → Prop} {s : Shared} {K : Frag} {x y C D L f : Addr} {h₀ : Heap} {m : Str → Option Value} {ox oy : Obj} {od od' : Option Obj} {nm T : String}
theorem fills_none {h : Heap} {cd : ClassData} (X : K.In h) (hc : clsIn K D = some cd) (hm : cd.mro = [.ref D, .type "object"]) (h1 : findIn K (.ref D) (PySem.dunder nm) = some none) (h2 : findIn K (.ref D) (dunderR nm) = some none)
    (h3 : findIn K (.type "object") (PySem.dunder nm) = some none) (h4 : findIn K (.type "object") (dunderR nm) = some none) : Looks M h (fillsNumberSlot (.ref D) nm) false := by
  intro A Q E s k q
  unfold fillsNumberSlot
  refine wpAny_bind ((looks_clsIn X hc).andThen (f := fun cd => pure cd.mro) .now A _ E s k ?_)
  rw [hm, List.anyM_cons]
  refine wpAny_bind ?_
  show wpAny M A (List.anyM _ [PySem.dunder nm, dunderR nm]) _ _ _
  rw [List.anyM_cons]
  refine wpAny_bind (wpAny_bind (looks_findIn X h1 A _ E s k ?_))
  dsimp only
  refine wpAny_pure ?_
  simp only [Bool.false_eq_true, if_false]
  rw [List.anyM_cons]
  refine wpAny_bind (wpAny_bind (looks_findIn X h2 A _ E s k ?_))
  dsimp only
  refine wpAny_pure ?_
  simp only [Bool.false_eq_true, if_false]
  rw [List.anyM_nil]
  refine wpAny_pure ?_
  rw [List.anyM_cons]
  refine wpAny_bind ?_
  refine wpAny_bind (looks_findIn X h3 A _ E s k ?_)
  refine wpAny_bind (looks_findIn X h4 A _ E s k ?_)
  refine wpAny_pure ?_
  simp only [Option.isSome_none, Bool.false_and, Bool.or_self, Bool.false_eq_true, if_false]
  rw [List.anyM_nil]
  exact wpAny_pure q
theorem bin_two {op : Operator} {cd : ClassData} {rc : Option Value} {Q : Value → Shared → Prop} (F : Fr h₀ L s.heap m) (X₀ : K.In h₀) (I : InstAt s.heap x ox C od) (J : InstAt s.heap y oy D od') (hne : C ≠ D) (hc : selfFirst K C = true)
    (hs : findIn K (.ref C) (PySem.dunder op.info.2) = some (some (.ref f))) (hf : isFn K (.ref f) = true)
    (hd : clsIn K D = some cd) (hm : cd.mro = [.ref D, .type "object"]) (h1 : findIn K (.ref D) (PySem.dunder op.info.2) = some none) (h2 : findIn K (.ref D) (dunderR op.info.2) = some none)
    (h3 : findIn K (.type "object") (PySem.dunder op.info.2) = some none) (h4 : findIn K (.type "object") (dunderR op.info.2) = some none)
    (h : wpAny (model prog w) A (call (.ref f) [.ref x, .ref y]) (PySem.W.CmpBack Q) E s) : wpAny (model prog w) A (binaryOp op (.ref x) (.ref y)) Q E s := by
  have X := X₀.keeps F.keep
  obtain ⟨cd1, rest, hcd, hm1⟩ := ksp_first hc
  rcases hi : op.info with ⟨sym, nm'⟩
  rw [hi] at hs h1 h2 h3 h4
  dsimp only at hs h1 h2 h3 h4
  have one := ksp_try X I hs hf h
  obtain ⟨hh, g, d, tt, os⟩ := s
  have L1 : Looks (model prog w) hh (typeOf (.ref x)) (.ref C) := I.type
  have L2 : Looks (model prog w) hh (typeOf (.ref y)) (.ref D) := J.type
  have L3 : Looks (model prog w) hh (fillsNumberSlot (.ref C) nm') true := fills_K X hcd hm1 hs
  have L4 : Looks (model prog w) hh (fillsNumberSlot (.ref D) nm') false := fills_none X hd hm h1 h2 h3 h4
  have hne : (Value.ref C == Value.ref D) = false := Bool.eq_false_iff.mpr fun q => by
    have := beq_iff_eq.mp q
    cases this
    exact hne rfl
  simp only [binaryOp, hi]
  refine wpAny_holding (wpAny_bind ?_)
  unfold binaryOp1
  refine wpAny_bind (L1.at (wpAny_bind (L2.at (wpAny_bind (L3.at ?_)))))
  simp only [hne, Bool.false_eq_true, if_false]
  ksp_lk
  refine wpAny_mono one (fun r s' hr' => ?_) fun _ _ e => e
  obtain ⟨v, rfl, hq⟩ := hr'
  ksp_lk
  exact hq
end
end PDk

namespace PD
open PySem PySem.Spec L2 PyProof.Rows
section
variable {e : Ev} {W : WX} {P : Pre} {σ : L2.St} {G G1 G2 : List Sl} {H H1 H2 : Hp} {X : Cx} {pos : Pos} {a b : Expr} {fa fb : EF} {c c2 n : Nat} {m : MF} {mds : List Md} {f : Addr}
def twoB (c c2 : Nat) (s : String) (nm : Nat → Str) (K : PySem.W.Frag) : Bool := PySem.W.selfFirst K (He.ga K (nm c)) && (decide (He.ga K (nm c) ≠ He.ga K (nm c2)) && ((match PySem.W.clsIn K (He.ga K (nm c2)) with
    | some cd => decide (cd.mro = [.ref (He.ga K (nm c2)), .type "object"])
    | none => false) && (decide (PySem.W.findIn K (.ref (He.ga K (nm c2))) (PySem.dunder s) = some none) && (decide (PySem.W.findIn K (.ref (He.ga K (nm c2))) (PySem.dunderR s) = some none) &&
    (decide (PySem.W.findIn K (.type "object") (PySem.dunder s) = some none) && decide (PySem.W.findIn K (.type "object") (PySem.dunderR s) = some none))))))
def rOw2 (e : Ev) (W : WX) (c c2 n : Nat) (m : MF) : L2.St → V → V → Hp → VK → Prop := fun σ x y H Q => InsR e c H x ∧ InsR e c2 H y ∧ spD e n m [x, y] H Q (WE W σ)
theorem ow_bin2 {op : Operator} {s : String} {d : Str} (B : Bd e X W) (ho : op.info.2 = s) (ht : twoB c c2 s e.nm e.K = true) (hd : PySem.dunder s = d) (hm : Meth e.K (e.ga c) d f) (cb : Clb X W f (spD e n m)) : OpO X (binaryOp op) (rOw2 e W c c2 n m) := by
  subst hd ho
  intro pins s σ H x y v u Q I rx ry h
  obtain ⟨⟨p, dx, fs, rfl, hx⟩, ⟨q, dy, gs, rfl, hy⟩, h⟩ := h
  obtain rfl : v = Value.ref p := rx
  obtain rfl : u = Value.ref q := ry
  obtain ⟨ox, od, J⟩ := inst_of I hx
  obtain ⟨oy, od', J'⟩ := inst_of I hy
  obtain ⟨m', hF⟩ := I.fr
  have hK := B.hK
  obtain ⟨t1, ht⟩ := He.ba ht
  obtain ⟨t2, ht⟩ := He.ba ht
  obtain ⟨t3, ht⟩ := He.ba ht
  obtain ⟨t4, ht⟩ := He.ba ht
  obtain ⟨t5, ht⟩ := He.ba ht
  obtain ⟨t6, t7⟩ := He.ba ht
  split at t3
  · rename_i cd hcd
    refine PDk.bin_two (op := op) (cd := cd) (rc := none) hF I.ok.mod.kin J J' (of_decide_eq_true t2) (hK ▸ t1) (hK ▸ hm.at_) (hK ▸ hm.fn) (hK ▸ hcd) (of_decide_eq_true t3) (hK ▸ of_decide_eq_true t4) (hK ▸ of_decide_eq_true t5) (hK ▸ of_decide_eq_true t6) (hK ▸ of_decide_eq_true t7) ?_
    exact wpAny_mono (cb pins s σ H [.ref p, .ref q] [.ref p, .ref q] Q I (.cons rfl (.cons rfl .nil)) h) (fun w s' z => ep_back z) fun _ _ x => x
  · cases t3
def cOw2 (c c2 : Nat) (m : MF) (mds : List Md) (fa fb : EF) : EF := fun G => (fa G).bind fun a G1 => (fb G1).bind fun b G2 => if obC c a G2 = true ∧ obC c2 b G2 = true then runC m mds [a, b] G2 else .bad
theorem tD_ow2 {Q : VK} (hn : mds.length = n) (h : tD e W (cOw2 c c2 m mds fa fb) σ H Q) : tD e W fa σ H fun x H1 => tD e W fb σ H1 fun y H2 => InsR e c H2 x ∧ InsR e c2 H2 y ∧ spD e n m [x, y] H2 Q (WE W σ) := by
  refine tD_two h fun P G Z0 H0 H a b v u S ta tb st q => ?_
  split at q
  · rename_i hob
    exact ⟨obC_ok S ta hob.1, obC_ok S tb hob.2, runC_ok S (ps := [a, b]) ⟨_, _, rfl, ta, _, _, rfl, tb, rfl⟩ st hn q⟩
  · exact q.elim
theorem de_ow2 {op : Operator} (ho : OpO X (binaryOp op) (rOw2 e W c c2 n m)) (hn : mds.length = n) (ha : PE X a (tD e W fa)) (hb : PE X b (tD e W fb)) : PE X (.BinOp a op b pos) (tD e W (cOw2 c c2 m mds fa fb)) :=
  ⟨fun pins s σ H Q I h => wpAny_BinOp (binT ha hb I (tD_ow2 hn h) fun v u s2 x y H2 I2 rx ry q => ho pins s2 σ H2 x y v u Q I2 rx ry q)⟩
@[simp] theorem cOw2_ap : cOw2 c c2 m mds fa fb G = (fa G).bind fun a G1 => (fb G1).bind fun b G2 => if obC c a G2 = true ∧ obC c2 b G2 = true then runC m mds [a, b] G2 else .bad := rfl
end
end PD
namespace PD
open PySem PySem.Spec L2 PyProof.Rows
section
variable {e : Ev} {W : WX} {X : Cx} {pos : Pos} {a b : Expr} {fa fb : EF} {c n : Nat} {m : MF} {mds : List Md}
theorem dt_inO {neg : Bool} {op : CmpOp} (ho : OpO X (compareOp op) (rOIn e W neg c m)) (hn : mds.length = 2) (ha : PE X a (tD e W fa)) (hb : PE X b (tD e W fb)) (hm : behindInMarks op b = false) : PT X (.Compare a [op] [b] pos) (tT e W (cTB (cOIn neg c m mds fa fb))) := by
  refine ⟨fun pins s σ H Q I h => ?_⟩
  have h2 : tD e W (cOIn neg c m mds fa fb) σ H fun x H1 => ∃ b, x = .bl b ∧ Q b H1 := by
    obtain ⟨P, G, S, h⟩ := h
    refine ⟨P, G, S, h.bind.mono (fun pv G1 h v H1 r => ?_) fun _ _ s => s⟩
    split at h
    · obtain ⟨S1, st1, rfl⟩ := r
      exact ⟨_, rfl, h H1 S1 st1⟩
    · exact h.elim
  refine wpAny_isTrue_Compare1 (thn (binT ha hb I (tD_OIn hn h2) fun v u s2 x y H2 I2 rx ry q => ho pins s2 σ H2 x y v u _ I2 rx ry q) fun v s1 h1 => thn h1 fun u s2 h2 => thn h2 fun c s3 ⟨x, H1, I1, r1, q1⟩ => ?_) hm
  obtain ⟨d, rfl, q⟩ := q1
  cases r1
  exact wpAny_truthy_bool ⟨H1, I1, q⟩
end
end PD

/-! PD51: a comprehension of two clauses, by maps -/
namespace PD
open PySem PySem.Spec L2
theorem cLC2_flat {src src1 : F (List D)} {v v1 : Nat} {f : EF} {G G1 : List Sl} {ds : List D} {s0 s1 : Sl} (E : D → List D) (F : D → D → D) (hv : v ≠ v1) (h1 : src G = .ok ds G1) (hs : G1[v]? = some s0) (hn : Nb s0) (hs1 : G1[v1]? = some s1) (hn1 : Nb s1)
    (hl : (ds.map fun d => (E d).length).sum < 1000000)
    (hE : ∀ d ∈ ds, src1 ((G1.set v1 .no).set v (.imm d)) = .ok (E d) ((G1.set v1 .no).set v (.imm d)))
    (hF : ∀ d ∈ ds, ∀ x ∈ E d, ∃ pv, f (((G1.set v1 .no).set v (.imm d)).set v1 (.imm x)) = .ok pv (((G1.set v1 .no).set v (.imm d)).set v1 (.imm x)) ∧ escV pv = some (F d x)) :
    cLC2 src [v, v1] [v1] (gN v) tYesD src1 (gN v1) tYesD f G = .ok (.fr (.lst (ds.flatMap fun d => (E d).map (F d)))) G1 := by
  have hlt := (List.getElem?_eq_some_iff.mp hs).1
  have hlt1 := (List.getElem?_eq_some_iff.mp hs1).1
  have hW1 : (G1.set v1 .no)[v1]? = some .no := by rw [List.getElem?_set_self hlt1]
  have hSt : ∀ d, ((G1.set v1 .no).set v (.imm d))[v1]? = some .no := fun d => by rw [List.getElem?_set_ne hv]; exact hW1
  have hSt2 : ∀ d, ((G1.set v1 .no).set v (.imm d)).set v1 .no = (G1.set v1 .no).set v (.imm d) := fun d => set_same (hSt d)
  have inner : ∀ d ∈ ds, ∀ (es acc : List D) (Gi : List Sl), (∀ x ∈ es, x ∈ E d) → acc.length + es.length < 1000000 → Gi.set v1 .no = (G1.set v1 .no).set v (.imm d) →
      ∃ Gj, lcGo [v1] (gN v1) tYesD f es acc Gi = .ok (acc ++ es.map (F d)) Gj ∧ Gj.set v1 .no = (G1.set v1 .no).set v (.imm d) := by
    intro d hd es
    induction es with
    | nil => intro acc Gi _ _ hGi; exact ⟨Gi, by simp [lcGo], hGi⟩
    | cons x es ih =>
      intro acc Gi hm hlen hGi
      have hlen' : acc.length + (es.length + 1) < 1000000 := by simpa using hlen
      obtain ⟨pv, e3, e4⟩ := hF d hd x (hm x List.mem_cons_self)
      obtain ⟨Gj, e1, e2⟩ := ih (acc ++ [F d x]) (((G1.set v1 .no).set v (.imm d)).set v1 (.imm x)) (fun y hy => hm y (List.mem_cons_of_mem _ hy)) (by simp; omega) (by rw [List.set_set]; exact hSt2 d)
      refine ⟨Gj, ?_, e2⟩
      unfold lcGo
      have hw : wipeG Gi [v1] = (G1.set v1 .no).set v (.imm d) := hGi
      rw [hw, gN_nb (hSt d) .no]
      dsimp only
      simp only [tYesD, noEx_ok, R.bind_ok, if_true]
      rw [e3]
      simp only [noEx_ok, R.bind_ok, escV_esc e4, if_pos (show acc.length < 1000000 by omega)]
      rw [e1]
      simp
  have outer : ∀ (es acc : List D) (Gi : List Sl), (∀ d ∈ es, d ∈ ds) → acc.length + (es.map fun d => (E d).length).sum < 1000000 → (Gi.set v1 .no).set v .no = (G1.set v1 .no).set v .no →
      ∃ Gj, lc2Go [v, v1] [v1] (gN v) tYesD src1 (gN v1) tYesD f es acc Gi = .ok (acc ++ es.flatMap fun d => (E d).map (F d)) Gj ∧ (Gj.set v1 .no).set v .no = (G1.set v1 .no).set v .no := by
    intro es
    induction es with
    | nil => intro acc Gi _ _ hGi; exact ⟨Gi, by simp [lc2Go], hGi⟩
    | cons d es ih =>
      intro acc Gi hm hlen hGi
      have hd := hm d List.mem_cons_self
      simp only [List.map_cons, List.sum_cons] at hlen
      obtain ⟨Gk, k1, k2⟩ := inner d hd (E d) acc ((G1.set v1 .no).set v (.imm d)) (fun x h => h) (by omega) (hSt2 d)
      obtain ⟨Gj, e1, e2⟩ := ih (acc ++ (E d).map (F d)) ((G1.set v1 .no).set v (.imm d)) (fun y hy => hm y (List.mem_cons_of_mem _ hy)) (by simp; omega) (by rw [hSt2 d, List.set_set])
      refine ⟨Gj, ?_, e2⟩
      unfold lc2Go
      have hw : wipeG Gi [v, v1] = (G1.set v1 .no).set v .no := hGi
      rw [hw, gN_nb (s0 := .no) (by rw [List.getElem?_set_self (by simpa using hlt)]) .no, List.set_set]
      dsimp only
      simp only [tYesD, noEx_ok, R.bind_ok, if_true]
      rw [hE d hd]
      simp only [noEx_ok, R.bind_ok]
      rw [k1]
      simp only [R.bind_ok]
      have hw2 : wipeG Gk [v1] = (G1.set v1 .no).set v (.imm d) := k2
      rw [hw2, e1]
      simp
  obtain ⟨Gj, e1, e2⟩ := outer ds [] G1 (fun _ h => h) (by simpa using hl) rfl
  have hok : okW G1 [v, v1] = true := by
    unfold okW
    simp [hs, hs1, hn.pl, hn1.pl, hv]
  rw [cLC2_ap, h1]
  simp only [R.bind_ok, if_pos hok, e1]
  have hr : resG G1 (wipeG Gj [v, v1]) [v, v1] = G1 := by
    have hw : wipeG Gj [v, v1] = (G1.set v1 .no).set v .no := e2
    rw [hw]
    show (((G1.set v1 .no).set v .no).set v ((G1[v]?).getD .no)).set v1 ((G1[v1]?).getD .no) = G1
    rw [List.set_set, hs, hs1]
    show ((G1.set v1 .no).set v s0).set v1 s1 = G1
    rw [List.set_comm _ _ hv, List.set_set, set_same hs1, set_same hs]
  rw [hr]
  simp
end PD

/-! PD14: the end of a law -/
namespace PD
open PySem PySem.Spec L2
theorem rps_map_int {e : Ev} {Z : Zo} {H : Hp} : ∀ ns : List Int, Rps e Z H (ns.map D.int) (ns.map V.int)
  | [] => rfl
  | n :: ns => ⟨_, _, rfl, rfl, rps_map_int ns⟩
theorem sp_law {e : Ev} {m : MF} {H : Hp} {a : Addr} {ns : List Int} (hm : ∃ A1, m [.imm (.fz (ns.map D.int))] = .ok (.val (.bl true)) A1) (hS : SqL e.K H a (ns.map V.int)) : spD e 1 m [.ref a] H (fun v _ => v = .bl true) (fun _ _ _ => False) := by
  obtain ⟨A1, hm⟩ := hm
  have no : ∀ a, ¬ Zn ⟨H, fun _ => False, fun _ => False, [.ref a], fun _ => False⟩ [.imm (.fz (ns.map D.int))] [some (V.ref a)] a := fun a z => by
    rcases z with z | ⟨i, d, h1, _⟩
    · exact z
    · cases i <;> simp at h1
  refine ⟨rfl, ⟨H, fun _ => False, fun _ => False, [.ref a], fun _ => False⟩, [.imm (.fz (ns.map D.int))], rfl, rfl, fun i d h => by cases i <;> simp at h, ?_, ?_⟩
  · refine ⟨rfl, fun i s h => ?_, fun i j d d' b h => by cases i <;> simp at h, fun i j d d' b h => by cases i <;> simp at h, fun a o h _ => h, fun a h => h, fun a h => h.elim, fun a h => h.elim⟩
    cases i with
    | zero =>
      simp at h; subst h
      refine ⟨_, rfl, a, _, rfl, ?_, rps_map_int ns⟩
      rcases hS with h | h
      · exact .inl ⟨fun z => by
          rcases z with z | ⟨i, d, h1, _⟩
          · exact z
          · cases i <;> simp at h1, h⟩
      · exact .inr h
    | succ i => simp at h
  · rw [hm]
    intro v H1 r
    obtain ⟨_, _, rfl⟩ := r
    rfl
theorem cx_end {Pg : Program} {w : World} {H : Hp} {s s' : Shared} {u : Value} (h : L2.CX Pg w [] H s (fun _ _ _ => False) u s') : False := by
  obtain ⟨_, _, _, _, _, _, _, _, _, _, _, _, q⟩ := h
  exact q
end PD

/-! the law k62: its defs over slots -/
namespace Pk62
open PySem PySem.Spec L2 PD

def tbl : List (Ty × Ty × Bool) := [(.b "NoneType", .b "bool", false), (.b "NoneType", .b "int", false), (.b "NoneType", .b "str", false), (.b "NoneType", .b "list", false), (.b "NoneType", .b "tuple", false), (.b "NoneType", .c 99, false), (.b "NoneType", .c 108, false), (.b "bool", .b "int", true), (.b "bool", .b "str", false), (.b "bool", .b "list", false), (.b "bool", .b "tuple", false), (.b "bool", .c 99, false), (.b "bool", .c 108, false), (.b "int", .b "bool", false), (.b "int", .b "str", false), (.b "int", .b "list", false), (.b "int", .b "tuple", false), (.b "int", .c 99, false), (.b "int", .c 108, false), (.b "str", .b "bool", false), (.b "str", .b "int", false), (.b "str", .b "list", false), (.b "str", .b "tuple", false), (.b "str", .c 99, false), (.b "str", .c 108, false), (.b "list", .b "bool", false), (.b "list", .b "int", false), (.b "list", .b "str", false), (.b "list", .b "tuple", false), (.b "list", .c 99, false), (.b "list", .c 108, false), (.b "tuple", .b "bool", false), (.b "tuple", .b "int", false), (.b "tuple", .b "str", false), (.b "tuple", .b "list", false), (.b "tuple", .c 99, false), (.b "tuple", .c 108, false), (.b "dict", .b "bool", false), (.b "dict", .b "int", false), (.b "dict", .b "str", false), (.b "dict", .b "list", false), (.b "dict", .b "tuple", false), (.b "dict", .c 99, false), (.b "dict", .c 108, false), (.c 99, .b "bool", false), (.c 99, .b "int", false), (.c 99, .b "str", false), (.c 99, .b "list", false), (.c 99, .b "tuple", false), (.c 99, .c 108, false), (.c 108, .b "bool", false), (.c 108, .b "int", false), (.c 108, .b "str", false), (.c 108, .b "list", false), (.c 108, .b "tuple", false), (.c 108, .c 99, false), (.c 7, .c 0, true), (.c 7, .b "ValueError", true), (.c 7, .c 13, false), (.c 13, .c 0, true), (.c 13, .b "ValueError", true), (.c 12, .c 0, true), (.c 12, .b "ValueError", true), (.c 12, .c 13, false), (.c 11, .c 0, true), (.c 11, .b "ValueError", true), (.c 11, .c 13, false), (.c 8, .c 0, true), (.c 8, .b "ValueError", true), (.c 8, .c 13, false)]
def objs : List Nat := [99, 108]
def raised : List Nat := [7, 13, 12, 11, 8]
@[simp] theorem isi_0 : isi1 tbl (.b "NoneType") (.b "bool") = some false := by decide +kernel
@[simp] theorem isi_1 : isi1 tbl (.b "NoneType") (.b "int") = some false := by decide +kernel
@[simp] theorem isi_2 : isi1 tbl (.b "NoneType") (.b "str") = some false := by decide +kernel
@[simp] theorem isi_3 : isi1 tbl (.b "NoneType") (.b "list") = some false := by decide +kernel
@[simp] theorem isi_4 : isi1 tbl (.b "NoneType") (.b "tuple") = some false := by decide +kernel
@[simp] theorem isi_5 : isi1 tbl (.b "NoneType") (.c 99) = some false := by decide +kernel
@[simp] theorem isi_6 : isi1 tbl (.b "NoneType") (.c 108) = some false := by decide +kernel
@[simp] theorem isi_7 : isi1 tbl (.b "bool") (.b "int") = some true := by decide +kernel
@[simp] theorem isi_8 : isi1 tbl (.b "bool") (.b "str") = some false := by decide +kernel
@[simp] theorem isi_9 : isi1 tbl (.b "bool") (.b "list") = some false := by decide +kernel
@[simp] theorem isi_10 : isi1 tbl (.b "bool") (.b "tuple") = some false := by decide +kernel
@[simp] theorem isi_11 : isi1 tbl (.b "bool") (.c 99) = some false := by decide +kernel
@[simp] theorem isi_12 : isi1 tbl (.b "bool") (.c 108) = some false := by decide +kernel
@[simp] theorem isi_13 : isi1 tbl (.b "int") (.b "bool") = some false := by decide +kernel
@[simp] theorem isi_14 : isi1 tbl (.b "int") (.b "str") = some false := by decide +kernel
@[simp] theorem isi_15 : isi1 tbl (.b "int") (.b "list") = some false := by decide +kernel
@[simp] theorem isi_16 : isi1 tbl (.b "int") (.b "tuple") = some false := by decide +kernel
@[simp] theorem isi_17 : isi1 tbl (.b "int") (.c 99) = some false := by decide +kernel
@[simp] theorem isi_18 : isi1 tbl (.b "int") (.c 108) = some false := by decide +kernel
@[simp] theorem isi_19 : isi1 tbl (.b "str") (.b "bool") = some false := by decide +kernel
@[simp] theorem isi_20 : isi1 tbl (.b "str") (.b "int") = some false := by decide +kernel
@[simp] theorem isi_21 : isi1 tbl (.b "str") (.b "list") = some false := by decide +kernel
@[simp] theorem isi_22 : isi1 tbl (.b "str") (.b "tuple") = some false := by decide +kernel
@[simp] theorem isi_23 : isi1 tbl (.b "str") (.c 99) = some false := by decide +kernel
@[simp] theorem isi_24 : isi1 tbl (.b "str") (.c 108) = some false := by decide +kernel
@[simp] theorem isi_25 : isi1 tbl (.b "list") (.b "bool") = some false := by decide +kernel
@[simp] theorem isi_26 : isi1 tbl (.b "list") (.b "int") = some false := by decide +kernel
@[simp] theorem isi_27 : isi1 tbl (.b "list") (.b "str") = some false := by decide +kernel
@[simp] theorem isi_28 : isi1 tbl (.b "list") (.b "tuple") = some false := by decide +kernel
@[simp] theorem isi_29 : isi1 tbl (.b "list") (.c 99) = some false := by decide +kernel
@[simp] theorem isi_30 : isi1 tbl (.b "list") (.c 108) = some false := by decide +kernel
@[simp] theorem isi_31 : isi1 tbl (.b "tuple") (.b "bool") = some false := by decide +kernel
@[simp] theorem isi_32 : isi1 tbl (.b "tuple") (.b "int") = some false := by decide +kernel
@[simp] theorem isi_33 : isi1 tbl (.b "tuple") (.b "str") = some false := by decide +kernel
@[simp] theorem isi_34 : isi1 tbl (.b "tuple") (.b "list") = some false := by decide +kernel
@[simp] theorem isi_35 : isi1 tbl (.b "tuple") (.c 99) = some false := by decide +kernel
@[simp] theorem isi_36 : isi1 tbl (.b "tuple") (.c 108) = some false := by decide +kernel
@[simp] theorem isi_37 : isi1 tbl (.b "dict") (.b "bool") = some false := by decide +kernel
@[simp] theorem isi_38 : isi1 tbl (.b "dict") (.b "int") = some false := by decide +kernel
@[simp] theorem isi_39 : isi1 tbl (.b "dict") (.b "str") = some false := by decide +kernel
@[simp] theorem isi_40 : isi1 tbl (.b "dict") (.b "list") = some false := by decide +kernel
@[simp] theorem isi_41 : isi1 tbl (.b "dict") (.b "tuple") = some false := by decide +kernel
@[simp] theorem isi_42 : isi1 tbl (.b "dict") (.c 99) = some false := by decide +kernel
@[simp] theorem isi_43 : isi1 tbl (.b "dict") (.c 108) = some false := by decide +kernel
@[simp] theorem isi_44 : isi1 tbl (.c 99) (.b "bool") = some false := by decide +kernel
@[simp] theorem isi_45 : isi1 tbl (.c 99) (.b "int") = some false := by decide +kernel
@[simp] theorem isi_46 : isi1 tbl (.c 99) (.b "str") = some false := by decide +kernel
@[simp] theorem isi_47 : isi1 tbl (.c 99) (.b "list") = some false := by decide +kernel
@[simp] theorem isi_48 : isi1 tbl (.c 99) (.b "tuple") = some false := by decide +kernel
@[simp] theorem isi_49 : isi1 tbl (.c 99) (.c 108) = some false := by decide +kernel
@[simp] theorem isi_50 : isi1 tbl (.c 108) (.b "bool") = some false := by decide +kernel
@[simp] theorem isi_51 : isi1 tbl (.c 108) (.b "int") = some false := by decide +kernel
@[simp] theorem isi_52 : isi1 tbl (.c 108) (.b "str") = some false := by decide +kernel
@[simp] theorem isi_53 : isi1 tbl (.c 108) (.b "list") = some false := by decide +kernel
@[simp] theorem isi_54 : isi1 tbl (.c 108) (.b "tuple") = some false := by decide +kernel
@[simp] theorem isi_55 : isi1 tbl (.c 108) (.c 99) = some false := by decide +kernel
@[simp] theorem isi_56 : isi1 tbl (.c 7) (.c 0) = some true := by decide +kernel
@[simp] theorem isi_57 : isi1 tbl (.c 7) (.b "ValueError") = some true := by decide +kernel
@[simp] theorem isi_58 : isi1 tbl (.c 7) (.c 13) = some false := by decide +kernel
@[simp] theorem isi_59 : isi1 tbl (.c 13) (.c 0) = some true := by decide +kernel
@[simp] theorem isi_60 : isi1 tbl (.c 13) (.b "ValueError") = some true := by decide +kernel
@[simp] theorem isi_61 : isi1 tbl (.c 12) (.c 0) = some true := by decide +kernel
@[simp] theorem isi_62 : isi1 tbl (.c 12) (.b "ValueError") = some true := by decide +kernel
@[simp] theorem isi_63 : isi1 tbl (.c 12) (.c 13) = some false := by decide +kernel
@[simp] theorem isi_64 : isi1 tbl (.c 11) (.c 0) = some true := by decide +kernel
@[simp] theorem isi_65 : isi1 tbl (.c 11) (.b "ValueError") = some true := by decide +kernel
@[simp] theorem isi_66 : isi1 tbl (.c 11) (.c 13) = some false := by decide +kernel
@[simp] theorem isi_67 : isi1 tbl (.c 8) (.c 0) = some true := by decide +kernel
@[simp] theorem isi_68 : isi1 tbl (.c 8) (.b "ValueError") = some true := by decide +kernel
@[simp] theorem isi_69 : isi1 tbl (.c 8) (.c 13) = some false := by decide +kernel
def rtb_InvalidPromise : List (Nat × Bool) := [(7, false), (13, false), (12, false), (11, true), (8, false)]
def rtb_UnknownName : List (Nat × Bool) := [(7, false), (13, false), (12, false), (11, false), (8, true)]
def dct_LINES : List (Str × D) := [("own", .str "own: W a, a so b, R b -> a vis b"), ("onward", .str "onward: W a, a vis b, R b, b so c, R c -> a vis c"), ("inorder", .str "inorder: W a, a so b, W b, b vis c, R c -> a vis c"), ("behind", .str "behind: W a, a vis b, R b, b so c, W c, c vis d, R d -> a vis d"), ("through", .str "through: W a, a vis b, R b, W b, b vis c, R c -> a vis c"), ("queue", .str "queue: W a, a so b, W b, b vis c -> a vis c"), ("carry", .str "carry: W a, a vis b, R b, b so c, W c, c vis d -> a vis d"), ("link", .str "link: W a, a vis b, W b, b vis c -> a vis c"), ("clock", .str "clock: a vis b -> a ar b"), ("steady", .str "steady: a so b -> a ar b"), ("prefix", .str "prefix: a ar b, b vis c -> a vis c"), ("real", .str "real: a bf b -> a ar b"), ("serial", .str "serial: a ar b -> a vis b"), ("writes", .str "writes: a vis b -> W a"), ("history", .str "history: a vis b, b vis c -> a vis c"), ("session", .str "session: a so b -> a vis b"), ("ownitem", .str "ownitem: W a, a so b, a si b, R b -> a vis b"), ("itemorder", .str "itemorder: a so b, a si b -> a ar b")]
def b__law_start : SF :=
  cRet (cLst (aCons (cCB kList (aCons (cVar 0) (aNil))) (aCons (cC (.int 0)) (aCons (cC (.int 0)) (aCons (cC (.int 0)) (aCons (cC (.int 0)) (aCons (cC (.bl false)) (aNil))))))))
def m__law_start : MF := mkFn 1 0 b__law_start
def b__law_ten : SF :=
  cRet (cLst (aCons (cC (.str "own")) (aCons (cC (.str "onward")) (aCons (cC (.str "queue")) (aCons (cC (.str "carry")) (aCons (cC (.str "link")) (aCons (cC (.str "clock")) (aCons (cC (.str "steady")) (aCons (cC (.str "prefix")) (aCons (cC (.str "real")) (aCons (cC (.str "serial")) (aNil))))))))))))
def m__law_ten : MF := mkFn 0 0 b__law_ten
def b__law_draw : SF :=
  cSeq (cIf (cAnd (cTB (cBin kEq (cBin kIx (cVar 0) (cC (.int 3))) (cC (.int 0)))) (cTB (cBin kLt (cBin kIx (cVar 0) (cC (.int 1))) (cCB kLen (aCons (cBin kIx (cVar 0) (cC (.int 0))) (aNil)))))) (cSeq (cSetIx 0 (cC (.int 2)) (cCB kIntC (aCons (cBin kIx (cBin kIx (cVar 0) (cC (.int 0))) (cBin kIx (cVar 0) (cC (.int 1)))) (aNil))))
  (cSeq (cSetIx 0 (cC (.int 1)) (cBin kAdd (cBin kIx (cVar 0) (cC (.int 1))) (cC (.int 1))))
  (cSeq (cSetIx 0 (cC (.int 3)) (cC (.int 8)))
  (cSeq (cSetIx 0 (cC (.int 4)) (cC (.int 0)))
  (cSeq (cSetIx 0 (cC (.int 5)) (cBin kGe (cBin kIx (cVar 0) (cC (.int 2))) (cBin kPow (cC (.int 10)) (cC (.int 18)))))
  (cIf (cTT (cBin kIx (cVar 0) (cC (.int 5)))) (cSetIx 0 (cC (.int 3)) (cC (.int 60))) (cNil))))))) (cNil))
  (cSeq (cIf (cOr (cTB (cBin kEq (cBin kIx (cVar 0) (cC (.int 3))) (cC (.int 0)))) (cTB (cBin kLt (cVar 1) (cC (.int 2))))) (cRet (cC (.int 0))) (cNil))
  (cSeq (cSetIx 0 (cC (.int 3)) (cBin kSub (cBin kIx (cVar 0) (cC (.int 3))) (cC (.int 1))))
  (cSeq (cSetIx 0 (cC (.int 4)) (cBin kAdd (cBin kIx (cVar 0) (cC (.int 4))) (cC (.int 1))))
  (cSeq (cIf (cTT (cBin kIx (cVar 0) (cC (.int 5)))) (cSeq (cSet 2 (cBin kMod (cCB kIntC (aCons (cBin kIx (cVar 0) (cC (.int 2))) (aNil))) (cVar 1)))
  (cSeq (cSetIx 0 (cC (.int 2)) (cBin kFdiv (cCB kIntC (aCons (cBin kIx (cVar 0) (cC (.int 2))) (aNil))) (cVar 1)))
  (cSeq (cIf (cTB (cBin kEq (cBin kIx (cVar 0) (cC (.int 2))) (cC (.int 0)))) (cSetIx 0 (cC (.int 3)) (cC (.int 0))) (cNil))
  (cRet (cVar 2))))) (cNil))
  (cSeq (cSet 3 (cBin kIx (cVar 0) (cC (.int 4))))
  (cSeq (cSet 4 (cBin kMod (cCB kIntC (aCons (cBin kMul (cBin kIx (cVar 0) (cC (.int 2))) (cC (.int 48271))) (aNil))) (cC (.int 2147483647))))
  (cSeq (cSet 4 (cBin kMod (cCB kIntC (aCons (cBin kMul (cVar 4) (cBin kAdd (cBin kAdd (cBin kMul (cBin kMul (cC (.int 69621)) (cVar 3)) (cVar 3)) (cBin kMul (cC (.int 40014)) (cVar 3))) (cC (.int 1)))) (aNil))) (cC (.int 2147483399))))
  (cRet (cBin kMod (cCB kIntC (aCons (cVar 4) (aNil))) (cVar 1))))))))))
def m__law_draw : MF := mkFn 2 3 b__law_draw
def b__law_same_L1 (m : MF) : SF :=
  cIf (cNot (cTT (cCall m [.b, .b] (aCons (cBin kIx (cVar 0) (cVar 2)) (aCons (cBin kIx (cVar 1) (cVar 2)) (aNil)))))) (cRet (cC (.bl false))) (cNil)
def b__law_same (m : MF) : SF :=
  cSeq (cIf (cTB (cBin (kIsN false) (cVar 1) (cC .non))) (cRet (cBin (kIsN false) (cVar 0) (cC .non))) (cNil))
  (cSeq (cIf (cTT (cCB (kIsiC tbl objs) (aCons (cVar 1) (aCons (cC (.ty "bool")) (aNil))))) (cRet (cAndV (cCB (kIsiC tbl objs) (aCons (cVar 0) (aCons (cC (.ty "bool")) (aNil)))) (cBin kEq (cVar 0) (cVar 1)))) (cNil))
  (cSeq (cIf (cTT (cCB (kIsiC tbl objs) (aCons (cVar 1) (aCons (cC (.ty "int")) (aNil))))) (cRet (cAndV (cCB (kIsiC tbl objs) (aCons (cVar 0) (aCons (cC (.ty "int")) (aNil)))) (cAndV (cNotV (cCB (kIsiC tbl objs) (aCons (cVar 0) (aCons (cC (.ty "bool")) (aNil))))) (cBin kEq (cVar 0) (cVar 1))))) (cNil))
  (cSeq (cIf (cTT (cCB (kIsiC tbl objs) (aCons (cVar 1) (aCons (cC (.ty "str")) (aNil))))) (cRet (cAndV (cCB (kIsiC tbl objs) (aCons (cVar 0) (aCons (cC (.ty "str")) (aNil)))) (cBin kEq (cVar 0) (cVar 1)))) (cNil))
  (cSeq (cIf (cTT (cCB (kIsiC tbl objs) (aCons (cVar 1) (aCons (cC (.ty "list")) (aNil))))) (cIf (cNot (cTT (cCB (kIsiC tbl objs) (aCons (cVar 0) (aCons (cC (.ty "list")) (aNil)))))) (cRet (cC (.bl false))) (cNil)) (cIf (cNot (cTT (cCB (kIsiC tbl objs) (aCons (cVar 0) (aCons (cC (.ty "tuple")) (aNil)))))) (cRet (cC (.bl false))) (cNil)))
  (cSeq (cIf (cTB (cBin kNe (cCB kLen (aCons (cVar 0) (aNil))) (cCB kLen (aCons (cVar 1) (aNil))))) (cRet (cC (.bl false))) (cNil))
  (cSeq (cFor (sRange1 (aCons (cCB kLen (aCons (cVar 1) (aNil))) (aNil))) (gN 2) (b__law_same_L1 m))
  (cRet (cC (.bl true)))))))))
def m__law_same : Nat → MF
  | 0 => fun _ => .bad
  | n + 1 => mkFn 2 1 (b__law_same (m__law_same n))
def b_repeated_name_L1 : SF :=
  cSeq (cIf (cTB (cBin (kIn false) (cFld [99] 37 (cVar 2)) (cVar 1))) (cRet (cFld [99] 37 (cVar 2))) (cNil))
  (cDrop (cApp 1 (cFld [99] 37 (cVar 2))))
def b_repeated_name : SF :=
  cSeq (cSet 1 (cLst (aNil)))
  (cSeq (cFor (sSeq (cVar 0)) (gN 2) (b_repeated_name_L1))
  (cRet (cC .non)))
def m_repeated_name : MF := mkFn 1 2 b_repeated_name
def b_Lot___init__ : SF :=
  cSeq (cIf (cTB (cBin kGt (cCB kLen (aCons (cVar 1) (aNil))) (cC (.int 12)))) (cRaise1 7 36 (cC (.int 12))) (cNil))
  (cSeq (cSet 2 (cCall m_repeated_name [.b] (aCons (cVar 1) (aNil))))
  (cSeq (cIf (cTB (cBin (kIsN true) (cVar 2) (cC .non))) (cRaise1 13 37 (cVar 2)) (cNil))
  (cSetF [108] 0 107 (cCB kList (aCons (cVar 1) (aNil))))))
def m_Lot___init__ : MF := mkFn 2 1 b_Lot___init__
def b_lot_of : SF :=
  cRet (cMakeS 108 m_Lot___init__ (aStar (cVar 0) aNil))
def m_lot_of : MF := mkFn 1 0 b_lot_of
def b_letter_number : SF :=
  cSeq (cIf (cAnd (cTB (cBin kEq (cCB kLen (aCons (cVar 0) (aNil))) (cC (.int 1)))) (cTB (cBin (kIn false) (cVar 0) (cC (.str "abcd"))))) (cRet (cMB "str" kFind (cC (.str "abcd")) (aCons (cVar 0) (aNil)))) (cNil))
  (cRet (cNeg (cC (.int 1))))
def m_letter_number : MF := mkFn 1 0 b_letter_number
def b_is_mark : SF :=
  cRet (cAndV (cCB (kIsiC tbl objs) (aCons (cVar 0) (aCons (cC (.ty "str")) (aNil)))) (cAndV (cBin kEq (cCB kLen (aCons (cVar 0) (aNil))) (cC (.int 1))) (cBin (kIn false) (cVar 0) (cC (.str "ABCDEFGHIJKLMNOPQRSTUVWXYZ")))))
def m_is_mark : MF := mkFn 1 0 b_is_mark
def b_is_place : SF :=
  cRet (cAndV (cCB (kIsiC tbl objs) (aCons (cVar 0) (aCons (cC (.ty "int")) (aNil)))) (cChain kLe kLt (cC (.int 0)) (cVar 0) (cVar 1)))
def m_is_place : MF := mkFn 2 0 b_is_place
def b_is_atom : SF :=
  cSeq (cIf (cNot (cTT (cCB (kIsiC tbl objs) (aCons (cVar 0) (aCons (cC (.ty "tuple")) (aNil)))))) (cRet (cC (.bl false))) (cNil))
  (cSeq (cIf (cTB (cBin kEq (cVar 0) (cC (.tup [.str "never"])))) (cRet (cC (.bl true))) (cNil))
  (cSeq (cIf (cTB (cBin kEq (cCB kLen (aCons (cVar 0) (aNil))) (cC (.int 2)))) (cRet (cAndV (cCall m_is_mark [.b] (aCons (cBin kIx (cVar 0) (cC (.int 0))) (aNil))) (cCall m_is_place [.b, .b] (aCons (cBin kIx (cVar 0) (cC (.int 1))) (aCons (cVar 1) (aNil)))))) (cNil))
  (cSeq (cIf (cOr (cTB (cBin kNe (cCB kLen (aCons (cVar 0) (aNil))) (cC (.int 3)))) (cTB (cBin (kIn true) (cBin kIx (cVar 0) (cC (.int 0))) (cC (.tup [.str "bf", .str "so", .str "vis", .str "ar", .str "ss", .str "si"]))))) (cRet (cC (.bl false))) (cNil))
  (cRet (cAndV (cCall m_is_place [.b, .b] (aCons (cBin kIx (cVar 0) (cC (.int 1))) (aCons (cVar 1) (aNil)))) (cAndV (cCall m_is_place [.b, .b] (aCons (cBin kIx (cVar 0) (cC (.int 2))) (aCons (cVar 1) (aNil)))) (cBin kNe (cBin kIx (cVar 0) (cC (.int 1))) (cBin kIx (cVar 0) (cC (.int 2))))))))))
def m_is_atom : MF := mkFn 2 0 b_is_atom
def b_parse_atom : SF :=
  cSeq (cSet 1 (cMB "str" kSplit (cVar 0) (aCons (cC (.str " ")) (aNil))))
  (cSeq (cSet 2 (cC (.tup [.str "never"])))
  (cSeq (cIf (cTB (cBin kEq (cCB kLen (aCons (cVar 1) (aNil))) (cC (.int 2)))) (cSet 2 (cTup (aCons (cBin kIx (cVar 1) (cC (.int 0))) (aCons (cCall m_letter_number [.b] (aCons (cBin kIx (cVar 1) (cC (.int 1))) (aNil))) (aNil))))) (cIf (cTB (cBin kEq (cCB kLen (aCons (cVar 1) (aNil))) (cC (.int 3)))) (cSet 2 (cTup (aCons (cBin kIx (cVar 1) (cC (.int 1))) (aCons (cCall m_letter_number [.b] (aCons (cBin kIx (cVar 1) (cC (.int 0))) (aNil))) (aCons (cCall m_letter_number [.b] (aCons (cBin kIx (cVar 1) (cC (.int 2))) (aNil))) (aNil)))))) (cIf (cTB (cBin kNe (cVar 0) (cC (.str "never")))) (cRaise1 12 40 (cC (.int 0))) (cNil))))
  (cSeq (cIf (cNot (cTT (cCall m_is_atom [.b, .b] (aCons (cVar 2) (aCons (cCB kLen (aCons (cC (.str "abcd")) (aNil))) (aNil)))))) (cRaise1 12 40 (cC (.int 0))) (cNil))
  (cRet (cVar 2)))))
def m_parse_atom : MF := mkFn 1 2 b_parse_atom
def b_promise_parts : SF :=
  cSeq (cAsg (gT 3 (gsCons (gN 1) (gsCons (gN 2) (gsCons (gN 3) (gsNil))))) (cMB "str" kPartition (cVar 0) (aCons (cC (.str ": ")) (aNil))))
  (cSeq (cAsg (gT 3 (gsCons (gN 4) (gsCons (gN 5) (gsCons (gN 6) (gsNil))))) (cMB "str" kPartition (cVar 3) (aCons (cC (.str " -> ")) (aNil))))
  (cSeq (cIf (cOr (cTB (cBin kEq (cVar 2) (cC (.str "")))) (cTB (cBin kEq (cVar 5) (cC (.str ""))))) (cRaise1 12 40 (cC (.int 0))) (cNil))
  (cSeq (cSet 7 (cLC (sSeq (cMB "str" kSplit (cVar 4) (aCons (cC (.str ", ")) (aNil)))) [8] (gN 8) (tYesD) (cCall m_parse_atom [.b] (aCons (cVar 8) (aNil)))))
  (cRet (cTup (aCons (cVar 1) (aCons (cVar 7) (aCons (cCall m_parse_atom [.b] (aCons (cVar 6) (aNil))) (aNil)))))))))
def m_promise_parts : MF := mkFn 1 8 b_promise_parts
def b_is_name : SF :=
  cSeq (cIf (cNot (cTB (cChain kLe kLe (cC (.int 1)) (cCB kLen (aCons (cVar 0) (aNil))) (cC (.int 12))))) (cRet (cC (.bl false))) (cNil))
  (cRet (cCB kAll (aCons (cLC (sSeq (cVar 0)) [1] (gN 1) (tYesD) (cBin (kIn false) (cVar 1) (cC (.str "abcdefghijklmnopqrstuvwxyz")))) (aNil))))
def m_is_name : MF := mkFn 1 1 b_is_name
def b_places_of : SF :=
  cRet (cCB kList (aCons (cSl (cVar 0) (oSome (cC (.int 1))) (oNo)) (aNil)))
def m_places_of : MF := mkFn 1 0 b_places_of
def b_size_of_L1 : SF :=
  cIf (cOr (cTB (cBin kEq (cVar 1) (cC (.tup [.str "never"])))) (cNot (cTT (cCall m_is_atom [.b, .b] (aCons (cVar 1) (aCons (cC (.int 4)) (aNil))))))) (cRaise0 11) (cNil)
def b_size_of_L2 : SF :=
  cIf (cTB (cBin (kIn true) (cVar 4) (cVar 2))) (cRaise0 11) (cNil)
def b_size_of : SF :=
  cSeq (cIf (cNot (cTB (cChain kLe kLe (cC (.int 1)) (cCB kLen (aCons (cVar 0) (aNil))) (cC (.int 8))))) (cRaise0 11) (cNil))
  (cSeq (cFor (sSeq (cVar 0)) (gN 1) (b_size_of_L1))
  (cSeq (cSet 2 (cLC2 (sSeq (cVar 0)) [1, 4] [4] (gN 1) (tYesD) (sSeq (cCall m_places_of [.b] (aCons (cVar 1) (aNil)))) (gN 4) (tYesD) (cVar 4)))
  (cSeq (cSet 3 (cBin kAdd (cC (.int 1)) (cCB kMax (aCons (cVar 2) (aNil)))))
  (cSeq (cFor (sRange1 (aCons (cVar 3) (aNil))) (gN 4) (b_size_of_L2))
  (cRet (cVar 3))))))
def m_size_of : MF := mkFn 1 4 b_size_of
def b_Promise___init__ : SF :=
  cSeq (cIf (cNot (cTT (cCall m_is_name [.b] (aCons (cVar 1) (aNil))))) (cRaise0 11) (cNil))
  (cSeq (cSet 4 (cCall m_size_of [.b] (aCons (cVar 2) (aNil))))
  (cSeq (cIf (cNot (cTT (cCall m_is_atom [.b, .b] (aCons (cVar 3) (aCons (cVar 4) (aNil)))))) (cRaise0 11) (cNil))
  (cSeq (cSetF [99] 0 37 (cVar 1))
  (cSeq (cSetF [99] 0 102 (cCB kTuple (aCons (cVar 2) (aNil))))
  (cSeq (cSetF [99] 0 103 (cVar 3))
  (cSetF [99] 0 70 (cVar 4)))))))
def m_Promise___init__ : MF := mkFn 4 1 b_Promise___init__
def b_Promise_read : SF :=
  cSeq (cAsg (gT 3 (gsCons (gN 2) (gsCons (gN 3) (gsCons (gN 4) (gsNil))))) (cCall m_promise_parts [.b] (aCons (cVar 1) (aNil))))
  (cTry1 rtb_InvalidPromise (some 5) (cRet (cMakeV 0 99 m_Promise___init__ [.e, .b, .e] (aCons (cVar 2) (aCons (cVar 3) (aCons (cVar 4) (aNil)))))) (sBad))
def m_Promise_read : MF := mkFn 2 4 b_Promise_read
def b_known : SF :=
  cSeq (cIf (cTB (cBin (kIn true) (cVar 0) (cC (.tup [.str "own", .str "onward", .str "inorder", .str "behind", .str "through", .str "queue", .str "carry", .str "link", .str "clock", .str "steady", .str "prefix", .str "real", .str "serial", .str "writes", .str "history", .str "session", .str "ownitem", .str "itemorder"])))) (cRaise1 8 37 (cVar 0)) (cNil))
  (cRet (cCM 99 m_Promise_read [.b] (aCons (cDc dct_LINES (cVar 0)) (aNil))))
def m_known : MF := mkFn 1 0 b_known
def b_check_rules_L1 : SF :=
  cIf (cTB (cBin (kIn true) (cVar 1) (cC (.tup [.str "own", .str "onward", .str "queue", .str "carry", .str "link", .str "clock", .str "steady", .str "prefix", .str "real", .str "serial"])))) (cRaise1 8 37 (cVar 1)) (cNil)
def b_check_rules : SF :=
  cFor (sSeq (cVar 0)) (gN 1) (b_check_rules_L1)
def m_check_rules : MF := mkFn 1 1 b_check_rules
def b_in_order : SF :=
  cSeq (cDrop (cCall m_check_rules [.b] (aCons (cVar 0) (aNil))))
  (cRet (cCB kTuple (aCons (cLC (sSeq (cC (.tup [.str "own", .str "onward", .str "queue", .str "carry", .str "link", .str "clock", .str "steady", .str "prefix", .str "real", .str "serial"]))) [1] (gN 1) (cTB (cBin (kIn false) (cVar 1) (cVar 0))) (cVar 1)) (aNil))))
def m_in_order : MF := mkFn 1 1 b_in_order
def b_rule_lot : SF :=
  cRet (cCall m_lot_of [.b] (aCons (cLC (sSeq (cCall m_in_order [.b] (aCons (cVar 0) (aNil)))) [1] (gN 1) (tYesD) (cCall m_known [.b] (aCons (cVar 1) (aNil)))) (aNil)))
def m_rule_lot : MF := mkFn 1 1 b_rule_lot
def b__law_rule_lot : SF :=
  cSeq (cIf (cTB (cBin kEq (cCB kLen (aCons (cVar 0) (aNil))) (cC (.int 0)))) (cRet (cCallS m_rule_lot aNil)) (cNil))
  (cSeq (cIf (cTB (cBin kEq (cCB kLen (aCons (cVar 0) (aNil))) (cC (.int 1)))) (cRet (cCallS m_rule_lot (aCons (cBin kIx (cVar 0) (cC (.int 0))) (aNil)))) (cNil))
  (cSeq (cIf (cTB (cBin kEq (cCB kLen (aCons (cVar 0) (aNil))) (cC (.int 2)))) (cRet (cCallS m_rule_lot (aCons (cBin kIx (cVar 0) (cC (.int 0))) (aCons (cBin kIx (cVar 0) (cC (.int 1))) (aNil))))) (cNil))
  (cSeq (cIf (cTB (cBin kEq (cCB kLen (aCons (cVar 0) (aNil))) (cC (.int 3)))) (cRet (cCallS m_rule_lot (aCons (cBin kIx (cVar 0) (cC (.int 0))) (aCons (cBin kIx (cVar 0) (cC (.int 1))) (aCons (cBin kIx (cVar 0) (cC (.int 2))) (aNil)))))) (cNil))
  (cSeq (cIf (cTB (cBin kEq (cCB kLen (aCons (cVar 0) (aNil))) (cC (.int 4)))) (cRet (cCallS m_rule_lot (aCons (cBin kIx (cVar 0) (cC (.int 0))) (aCons (cBin kIx (cVar 0) (cC (.int 1))) (aCons (cBin kIx (cVar 0) (cC (.int 2))) (aCons (cBin kIx (cVar 0) (cC (.int 3))) (aNil))))))) (cNil))
  (cSeq (cIf (cTB (cBin kEq (cCB kLen (aCons (cVar 0) (aNil))) (cC (.int 5)))) (cRet (cCallS m_rule_lot (aCons (cBin kIx (cVar 0) (cC (.int 0))) (aCons (cBin kIx (cVar 0) (cC (.int 1))) (aCons (cBin kIx (cVar 0) (cC (.int 2))) (aCons (cBin kIx (cVar 0) (cC (.int 3))) (aCons (cBin kIx (cVar 0) (cC (.int 4))) (aNil)))))))) (cNil))
  (cRet (cCallS m_rule_lot (aCons (cBin kIx (cVar 0) (cC (.int 0))) (aCons (cBin kIx (cVar 0) (cC (.int 1))) (aCons (cBin kIx (cVar 0) (cC (.int 2))) (aCons (cBin kIx (cVar 0) (cC (.int 3))) (aCons (cBin kIx (cVar 0) (cC (.int 4))) (aCons (cBin kIx (cVar 0) (cC (.int 5))) (aNil))))))))))))))
def m__law_rule_lot : MF := mkFn 1 0 b__law_rule_lot
def b__law_parts : SF :=
  cSeq (cIf (cNot (cTT (cCB (kIsiC tbl objs) (aCons (cVar 0) (aCons (cC (.st 99)) (aNil)))))) (cRet (cC .non)) (cNil))
  (cRet (cTup (aCons (cFld [99] 37 (cVar 0)) (aCons (cFld [99] 102 (cVar 0)) (aCons (cFld [99] 103 (cVar 0)) (aNil))))))
def m__law_parts : MF := mkFn 1 0 b__law_parts
def b__law_lot_told : SF :=
  cSeq (cTry1 rtb_UnknownName (some 2) (cSet 1 (cCall m__law_rule_lot [.b] (aCons (cVar 0) (aNil)))) (cSeq (cSet 3 (cAndV (cIsE tbl raised 2 (cC (.st 0))) (cIsE tbl raised 2 (cC (.ty "ValueError")))))
  (cRet (cTup (aCons (cC (.str "unknown")) (aCons (cXf [13, 8] 2 37) (aCons (cAndV (cVar 3) (cNotV (cIsE tbl raised 2 (cC (.st 13))))) (aNil))))))))
  (cSeq (cIf (cNot (cTT (cCB (kIsiC tbl objs) (aCons (cVar 1) (aCons (cC (.st 108)) (aNil)))))) (cRet (cC .non)) (cNil))
  (cRet (cTup (aCons (cC (.str "told")) (aCons (cLC (sIterO 108 107 (cVar 1)) [4] (gN 4) (tYesD) (cCall m__law_parts [.b] (aCons (cVar 4) (aNil)))) (aNil))))))
def m__law_lot_told : MF := mkFn 1 4 b__law_lot_told
def b__law_known : SF :=
  cRet (cLst (aCons (cTup (aCons (cC (.str "own")) (aCons (cLst (aCons (cTup (aCons (cC (.str "W")) (aCons (cC (.int 0)) (aNil)))) (aCons (cTup (aCons (cC (.str "so")) (aCons (cC (.int 0)) (aCons (cC (.int 1)) (aNil))))) (aCons (cTup (aCons (cC (.str "R")) (aCons (cC (.int 1)) (aNil)))) (aNil))))) (aCons (cTup (aCons (cC (.str "vis")) (aCons (cC (.int 0)) (aCons (cC (.int 1)) (aNil))))) (aNil))))) (aCons (cTup (aCons (cC (.str "onward")) (aCons (cLst (aCons (cTup (aCons (cC (.str "W")) (aCons (cC (.int 0)) (aNil)))) (aCons (cTup (aCons (cC (.str "vis")) (aCons (cC (.int 0)) (aCons (cC (.int 1)) (aNil))))) (aCons (cTup (aCons (cC (.str "R")) (aCons (cC (.int 1)) (aNil)))) (aCons (cTup (aCons (cC (.str "so")) (aCons (cC (.int 1)) (aCons (cC (.int 2)) (aNil))))) (aCons (cTup (aCons (cC (.str "R")) (aCons (cC (.int 2)) (aNil)))) (aNil))))))) (aCons (cTup (aCons (cC (.str "vis")) (aCons (cC (.int 0)) (aCons (cC (.int 2)) (aNil))))) (aNil))))) (aCons (cTup (aCons (cC (.str "inorder")) (aCons (cLst (aCons (cTup (aCons (cC (.str "W")) (aCons (cC (.int 0)) (aNil)))) (aCons (cTup (aCons (cC (.str "so")) (aCons (cC (.int 0)) (aCons (cC (.int 1)) (aNil))))) (aCons (cTup (aCons (cC (.str "W")) (aCons (cC (.int 1)) (aNil)))) (aCons (cTup (aCons (cC (.str "vis")) (aCons (cC (.int 1)) (aCons (cC (.int 2)) (aNil))))) (aCons (cTup (aCons (cC (.str "R")) (aCons (cC (.int 2)) (aNil)))) (aNil))))))) (aCons (cTup (aCons (cC (.str "vis")) (aCons (cC (.int 0)) (aCons (cC (.int 2)) (aNil))))) (aNil))))) (aCons (cTup (aCons (cC (.str "behind")) (aCons (cLst (aCons (cTup (aCons (cC (.str "W")) (aCons (cC (.int 0)) (aNil)))) (aCons (cTup (aCons (cC (.str "vis")) (aCons (cC (.int 0)) (aCons (cC (.int 1)) (aNil))))) (aCons (cTup (aCons (cC (.str "R")) (aCons (cC (.int 1)) (aNil)))) (aCons (cTup (aCons (cC (.str "so")) (aCons (cC (.int 1)) (aCons (cC (.int 2)) (aNil))))) (aCons (cTup (aCons (cC (.str "W")) (aCons (cC (.int 2)) (aNil)))) (aCons (cTup (aCons (cC (.str "vis")) (aCons (cC (.int 2)) (aCons (cC (.int 3)) (aNil))))) (aCons (cTup (aCons (cC (.str "R")) (aCons (cC (.int 3)) (aNil)))) (aNil))))))))) (aCons (cTup (aCons (cC (.str "vis")) (aCons (cC (.int 0)) (aCons (cC (.int 3)) (aNil))))) (aNil))))) (aCons (cTup (aCons (cC (.str "through")) (aCons (cLst (aCons (cTup (aCons (cC (.str "W")) (aCons (cC (.int 0)) (aNil)))) (aCons (cTup (aCons (cC (.str "vis")) (aCons (cC (.int 0)) (aCons (cC (.int 1)) (aNil))))) (aCons (cTup (aCons (cC (.str "R")) (aCons (cC (.int 1)) (aNil)))) (aCons (cTup (aCons (cC (.str "W")) (aCons (cC (.int 1)) (aNil)))) (aCons (cTup (aCons (cC (.str "vis")) (aCons (cC (.int 1)) (aCons (cC (.int 2)) (aNil))))) (aCons (cTup (aCons (cC (.str "R")) (aCons (cC (.int 2)) (aNil)))) (aNil)))))))) (aCons (cTup (aCons (cC (.str "vis")) (aCons (cC (.int 0)) (aCons (cC (.int 2)) (aNil))))) (aNil))))) (aCons (cTup (aCons (cC (.str "queue")) (aCons (cLst (aCons (cTup (aCons (cC (.str "W")) (aCons (cC (.int 0)) (aNil)))) (aCons (cTup (aCons (cC (.str "so")) (aCons (cC (.int 0)) (aCons (cC (.int 1)) (aNil))))) (aCons (cTup (aCons (cC (.str "W")) (aCons (cC (.int 1)) (aNil)))) (aCons (cTup (aCons (cC (.str "vis")) (aCons (cC (.int 1)) (aCons (cC (.int 2)) (aNil))))) (aNil)))))) (aCons (cTup (aCons (cC (.str "vis")) (aCons (cC (.int 0)) (aCons (cC (.int 2)) (aNil))))) (aNil))))) (aCons (cTup (aCons (cC (.str "carry")) (aCons (cLst (aCons (cTup (aCons (cC (.str "W")) (aCons (cC (.int 0)) (aNil)))) (aCons (cTup (aCons (cC (.str "vis")) (aCons (cC (.int 0)) (aCons (cC (.int 1)) (aNil))))) (aCons (cTup (aCons (cC (.str "R")) (aCons (cC (.int 1)) (aNil)))) (aCons (cTup (aCons (cC (.str "so")) (aCons (cC (.int 1)) (aCons (cC (.int 2)) (aNil))))) (aCons (cTup (aCons (cC (.str "W")) (aCons (cC (.int 2)) (aNil)))) (aCons (cTup (aCons (cC (.str "vis")) (aCons (cC (.int 2)) (aCons (cC (.int 3)) (aNil))))) (aNil)))))))) (aCons (cTup (aCons (cC (.str "vis")) (aCons (cC (.int 0)) (aCons (cC (.int 3)) (aNil))))) (aNil))))) (aCons (cTup (aCons (cC (.str "link")) (aCons (cLst (aCons (cTup (aCons (cC (.str "W")) (aCons (cC (.int 0)) (aNil)))) (aCons (cTup (aCons (cC (.str "vis")) (aCons (cC (.int 0)) (aCons (cC (.int 1)) (aNil))))) (aCons (cTup (aCons (cC (.str "W")) (aCons (cC (.int 1)) (aNil)))) (aCons (cTup (aCons (cC (.str "vis")) (aCons (cC (.int 1)) (aCons (cC (.int 2)) (aNil))))) (aNil)))))) (aCons (cTup (aCons (cC (.str "vis")) (aCons (cC (.int 0)) (aCons (cC (.int 2)) (aNil))))) (aNil))))) (aCons (cTup (aCons (cC (.str "clock")) (aCons (cLst (aCons (cTup (aCons (cC (.str "vis")) (aCons (cC (.int 0)) (aCons (cC (.int 1)) (aNil))))) (aNil))) (aCons (cTup (aCons (cC (.str "ar")) (aCons (cC (.int 0)) (aCons (cC (.int 1)) (aNil))))) (aNil))))) (aCons (cTup (aCons (cC (.str "steady")) (aCons (cLst (aCons (cTup (aCons (cC (.str "so")) (aCons (cC (.int 0)) (aCons (cC (.int 1)) (aNil))))) (aNil))) (aCons (cTup (aCons (cC (.str "ar")) (aCons (cC (.int 0)) (aCons (cC (.int 1)) (aNil))))) (aNil))))) (aCons (cTup (aCons (cC (.str "prefix")) (aCons (cLst (aCons (cTup (aCons (cC (.str "ar")) (aCons (cC (.int 0)) (aCons (cC (.int 1)) (aNil))))) (aCons (cTup (aCons (cC (.str "vis")) (aCons (cC (.int 1)) (aCons (cC (.int 2)) (aNil))))) (aNil)))) (aCons (cTup (aCons (cC (.str "vis")) (aCons (cC (.int 0)) (aCons (cC (.int 2)) (aNil))))) (aNil))))) (aCons (cTup (aCons (cC (.str "real")) (aCons (cLst (aCons (cTup (aCons (cC (.str "bf")) (aCons (cC (.int 0)) (aCons (cC (.int 1)) (aNil))))) (aNil))) (aCons (cTup (aCons (cC (.str "ar")) (aCons (cC (.int 0)) (aCons (cC (.int 1)) (aNil))))) (aNil))))) (aCons (cTup (aCons (cC (.str "serial")) (aCons (cLst (aCons (cTup (aCons (cC (.str "ar")) (aCons (cC (.int 0)) (aCons (cC (.int 1)) (aNil))))) (aNil))) (aCons (cTup (aCons (cC (.str "vis")) (aCons (cC (.int 0)) (aCons (cC (.int 1)) (aNil))))) (aNil))))) (aCons (cTup (aCons (cC (.str "writes")) (aCons (cLst (aCons (cTup (aCons (cC (.str "vis")) (aCons (cC (.int 0)) (aCons (cC (.int 1)) (aNil))))) (aNil))) (aCons (cTup (aCons (cC (.str "W")) (aCons (cC (.int 0)) (aNil)))) (aNil))))) (aCons (cTup (aCons (cC (.str "history")) (aCons (cLst (aCons (cTup (aCons (cC (.str "vis")) (aCons (cC (.int 0)) (aCons (cC (.int 1)) (aNil))))) (aCons (cTup (aCons (cC (.str "vis")) (aCons (cC (.int 1)) (aCons (cC (.int 2)) (aNil))))) (aNil)))) (aCons (cTup (aCons (cC (.str "vis")) (aCons (cC (.int 0)) (aCons (cC (.int 2)) (aNil))))) (aNil))))) (aCons (cTup (aCons (cC (.str "session")) (aCons (cLst (aCons (cTup (aCons (cC (.str "so")) (aCons (cC (.int 0)) (aCons (cC (.int 1)) (aNil))))) (aNil))) (aCons (cTup (aCons (cC (.str "vis")) (aCons (cC (.int 0)) (aCons (cC (.int 1)) (aNil))))) (aNil))))) (aCons (cTup (aCons (cC (.str "ownitem")) (aCons (cLst (aCons (cTup (aCons (cC (.str "W")) (aCons (cC (.int 0)) (aNil)))) (aCons (cTup (aCons (cC (.str "so")) (aCons (cC (.int 0)) (aCons (cC (.int 1)) (aNil))))) (aCons (cTup (aCons (cC (.str "si")) (aCons (cC (.int 0)) (aCons (cC (.int 1)) (aNil))))) (aCons (cTup (aCons (cC (.str "R")) (aCons (cC (.int 1)) (aNil)))) (aNil)))))) (aCons (cTup (aCons (cC (.str "vis")) (aCons (cC (.int 0)) (aCons (cC (.int 1)) (aNil))))) (aNil))))) (aCons (cTup (aCons (cC (.str "itemorder")) (aCons (cLst (aCons (cTup (aCons (cC (.str "so")) (aCons (cC (.int 0)) (aCons (cC (.int 1)) (aNil))))) (aCons (cTup (aCons (cC (.str "si")) (aCons (cC (.int 0)) (aCons (cC (.int 1)) (aNil))))) (aNil)))) (aCons (cTup (aCons (cC (.str "ar")) (aCons (cC (.int 0)) (aCons (cC (.int 1)) (aNil))))) (aNil))))) (aNil))))))))))))))))))))
def m__law_known : MF := mkFn 0 0 b__law_known
def b__law_shape_of_L1 : SF :=
  cIf (cTB (cBin kEq (cBin kIx (cVar 1) (cC (.int 0))) (cVar 0))) (cRet (cTup (aCons (cBin kIx (cVar 1) (cC (.int 1))) (aCons (cBin kIx (cVar 1) (cC (.int 2))) (aNil))))) (cNil)
def b__law_shape_of : SF :=
  cSeq (cFor (sSeq (cCall m__law_known [] aNil)) (gN 1) (b__law_shape_of_L1))
  (cRet (cTup (aCons (cLst (aCons (cTup (aCons (cC (.str "W")) (aCons (cC (.int 0)) (aNil)))) (aNil))) (aCons (cTup (aCons (cC (.str "W")) (aCons (cC (.int 0)) (aNil)))) (aNil)))))
def m__law_shape_of : MF := mkFn 1 1 b__law_shape_of
def b__law_parts_due : SF :=
  cSeq (cSet 1 (cCall m__law_shape_of [.b] (aCons (cVar 0) (aNil))))
  (cRet (cTup (aCons (cVar 0) (aCons (cCB kTuple (aCons (cBin kIx (cVar 1) (cC (.int 0))) (aNil))) (aCons (cBin kIx (cVar 1) (cC (.int 1))) (aNil))))))
def m__law_parts_due : MF := mkFn 1 1 b__law_parts_due
def b__law_lot_due : SF :=
  cRet (cTup (aCons (cC (.str "told")) (aCons (cLC (sSeq (cCall m__law_ten [] aNil)) [1] (gN 1) (cTB (cBin (kIn false) (cVar 1) (cVar 0))) (cCall m__law_parts_due [.e] (aCons (cVar 1) (aNil)))) (aNil))))
def m__law_lot_due : MF := mkFn 1 1 b__law_lot_due
def b_rule_promise : SF :=
  cSeq (cDrop (cCall m_check_rules [.b] (aCons (cLst (aCons (cVar 0) (aNil))) (aNil))))
  (cRet (cCall m_known [.b] (aCons (cVar 0) (aNil))))
def m_rule_promise : MF := mkFn 1 0 b_rule_promise
def b__law_promise_told : SF :=
  cSeq (cTry1 rtb_UnknownName (some 2) (cSet 1 (cCall m_rule_promise [.e] (aCons (cVar 0) (aNil)))) (cSeq (cSet 3 (cAndV (cIsE tbl raised 2 (cC (.st 0))) (cIsE tbl raised 2 (cC (.ty "ValueError")))))
  (cRet (cTup (aCons (cC (.str "unknown")) (aCons (cXf [13, 8] 2 37) (aCons (cAndV (cVar 3) (cNotV (cIsE tbl raised 2 (cC (.st 13))))) (aNil))))))))
  (cRet (cTup (aCons (cC (.str "told")) (aCons (cCall m__law_parts [.b] (aCons (cVar 1) (aNil))) (aNil)))))
def m__law_promise_told : MF := mkFn 1 3 b__law_promise_told
def b_law_L1 : SF :=
  cSeq (cIf (cNot (cTT (cCall (m__law_same 7) [.b, .b] (aCons (cCall m__law_promise_told [.e] (aCons (cVar 10) (aNil))) (aCons (cTup (aCons (cC (.str "told")) (aCons (cCall m__law_parts_due [.e] (aCons (cVar 10) (aNil))) (aNil)))) (aNil)))))) (cRet (cC (.bl false))) (cNil))
  (cIf (cNot (cTT (cCall (m__law_same 7) [.b, .b] (aCons (cCall m__law_lot_told [.b] (aCons (cLst (aCons (cVar 10) (aNil))) (aNil))) (aCons (cCall m__law_lot_due [.b] (aCons (cLst (aCons (cVar 10) (aNil))) (aNil))) (aNil)))))) (cRet (cC (.bl false))) (cNil))
def b_law_L2 : SF :=
  cIf (cNot (cTT (cCall (m__law_same 7) [.b, .b] (aCons (cCall m__law_promise_told [.e] (aCons (cVar 10) (aNil))) (aCons (cTup (aCons (cC (.str "unknown")) (aCons (cVar 10) (aCons (cC (.bl true)) (aNil))))) (aNil)))))) (cRet (cC (.bl false))) (cNil)
def b_law : SF :=
  cSeq (cSet 1 (cCall m__law_start [.b] (aCons (cVar 0) (aNil))))
  (cSeq (cSet 2 (cCall m__law_ten [] aNil))
  (cSeq (cSet 3 (cLC (sRange1 (aCons (cCall m__law_draw [.m, .b] (aCons (cVar 1) (aCons (cC (.int 5)) (aNil)))) (aNil))) [11] (gN 11) (tYesD) (cBin kIx (cVar 2) (cCall m__law_draw [.m, .b] (aCons (cVar 1) (aCons (cC (.int 10)) (aNil)))))))
  (cSeq (cSet 4 (cLst (aCons (cC (.str "inorder")) (aCons (cC (.str "behind")) (aCons (cC (.str "through")) (aCons (cC (.str "session")) (aCons (cC (.str "history")) (aCons (cC (.str "OWN")) (aCons (cC (.str "own ")) (aCons (cC (.str "")) (aNil)))))))))))
  (cSeq (cSet 5 (cBin kIx (cVar 4) (cCall m__law_draw [.m, .b] (aCons (cVar 1) (aCons (cC (.int 8)) (aNil))))))
  (cSeq (cSet 6 (cBin kIx (cVar 4) (cCall m__law_draw [.m, .b] (aCons (cVar 1) (aCons (cC (.int 8)) (aNil))))))
  (cSeq (cSet 7 (cCall m__law_draw [.m, .b] (aCons (cVar 1) (aCons (cBin kAdd (cCB kLen (aCons (cVar 3) (aNil))) (cC (.int 1))) (aNil)))))
  (cSeq (cSet 8 (cBin kAdd (cBin kAdd (cBin kAdd (cSl (cVar 3) (oNo) (oSome (cVar 7))) (cLst (aCons (cVar 5) (aNil)))) (cSl (cVar 3) (oSome (cVar 7)) (oNo))) (cLst (aCons (cVar 6) (aNil)))))
  (cSeq (cIf (cNot (cTT (cCall (m__law_same 7) [.b, .b] (aCons (cC (.tup [.str "own", .str "onward", .str "queue", .str "carry", .str "link", .str "clock", .str "steady", .str "prefix", .str "real", .str "serial"])) (aCons (cCB kTuple (aCons (cVar 2) (aNil))) (aNil)))))) (cRet (cC (.bl false))) (cNil))
  (cSeq (cIf (cNot (cTT (cCall (m__law_same 7) [.b, .b] (aCons (cCall m__law_lot_told [.b] (aCons (cVar 3) (aNil))) (aCons (cCall m__law_lot_due [.b] (aCons (cVar 3) (aNil))) (aNil)))))) (cRet (cC (.bl false))) (cNil))
  (cSeq (cIf (cNot (cTT (cCall (m__law_same 7) [.b, .b] (aCons (cCall m__law_lot_told [.b] (aCons (cVar 8) (aNil))) (aCons (cTup (aCons (cC (.str "unknown")) (aCons (cVar 5) (aCons (cC (.bl true)) (aNil))))) (aNil)))))) (cRet (cC (.bl false))) (cNil))
  (cSeq (cIf (cNot (cTT (cCall (m__law_same 7) [.b, .b] (aCons (cCall m__law_lot_told [.b] (aCons (cRev (cVar 3)) (aNil))) (aCons (cCall m__law_lot_due [.b] (aCons (cVar 3) (aNil))) (aNil)))))) (cRet (cC (.bl false))) (cNil))
  (cSeq (cSet 9 (cCallS m_rule_lot (aCons (cC (.str "serial")) (aCons (cC (.str "real")) (aCons (cC (.str "prefix")) (aCons (cC (.str "steady")) (aCons (cC (.str "clock")) (aCons (cC (.str "link")) (aCons (cC (.str "carry")) (aCons (cC (.str "queue")) (aCons (cC (.str "onward")) (aCons (cC (.str "own")) (aNil)))))))))))))
  (cSeq (cIf (cNot (cTT (cCall (m__law_same 7) [.b, .b] (aCons (cTup (aCons (cC (.str "told")) (aCons (cLC (sIterO 108 107 (cVar 9)) [12] (gN 12) (tYesD) (cCall m__law_parts [.b] (aCons (cVar 12) (aNil)))) (aNil)))) (aCons (cCall m__law_lot_due [.b] (aCons (cVar 2) (aNil))) (aNil)))))) (cRet (cC (.bl false))) (cNil))
  (cSeq (cFor (sSeq (cBin kAdd (cVar 2) (cVar 3))) (gN 10) (b_law_L1))
  (cSeq (cFor (sSeq (cLst (aCons (cVar 5) (aCons (cVar 6) (aNil))))) (gN 10) (b_law_L2))
  (cRet (cC (.bl true))))))))))))))))))
def m_law : MF := mkFn 1 12 b_law
end Pk62

namespace Pk62
open PySem PySem.Spec PD
/-! ### the draws -/
def drD (xs : List Int) (pos : Nat) (cur : Int) (left step : Int) (big : Bool) : D := .lst [.lst (xs.map D.int), .int pos, .int cur, .int left, .int step, .bl big]
def Dr (d : D) : Prop := ∃ xs pos cur left step big, d = drD xs pos cur left step big ∧ 0 ≤ left ∧ 0 ≤ step ∧ step + left ≤ 60
theorem start_ok (ns : List Int) : m__law_start [.imm (.fz (ns.map D.int))] = .ok (.fr (drD ns 0 0 0 0 false)) [.no] := by
  simp [m__law_start, b__law_start, drD]
theorem dr0 (ns : List Int) : Dr (drD ns 0 0 0 0 false) := ⟨ns, 0, 0, 0, 0, false, rfl, by omega, by omega, by omega⟩
theorem draw_go {xs : List Int} {pos : Nat} {cur left step l : Int} {big : Bool} (h0 : 0 < left) (h1 : 0 ≤ step) (h2 : step + left ≤ 60) (hl : l < 2 ^ 100) : ∃ (n : Int) (d' : D), m__law_draw [.lnd (drD xs pos cur left step big), .imm (.int l)] = .ok (.val (.int n)) [.lnd d', .no] ∧ Dr d' ∧ 0 ≤ n ∧ (n < l ∨ n = 0) := by
  have h : left ≠ 0 := by omega
  by_cases hl2 : l < 2
  · simp [m__law_draw, b__law_draw, drD, h, hl2]
    exact ⟨_, _, ⟨rfl, rfl⟩, ⟨xs, pos, cur, left, step, big, rfl, by omega, by omega, by omega⟩, by omega, by omega⟩
  · have h0' : 0 < l := by omega
    have hl' : l < 1267650600228229401496703205376 := hl
    cases big
    · simp [m__law_draw, b__law_draw, drD, h, hl2, h0', hl']
      rw [if_pos (.inl (by omega)), if_pos (.inl (by omega))]
      exact ⟨_, _, rfl, ⟨xs, pos, cur, left - 1, step + 1, false, rfl, by omega, by omega, by omega⟩, Int.emod_nonneg _ (by omega), .inl (Int.emod_lt_of_pos _ h0')⟩
    · simp [m__law_draw, b__law_draw, drD, h, hl2, h0', hl']
      by_cases hz : cur / l = 0
      · rw [if_pos hz]
        exact ⟨_, _, rfl, ⟨xs, pos, cur / l, 0, step + 1, true, rfl, by omega, by omega, by omega⟩, Int.emod_nonneg _ (by omega), .inl (Int.emod_lt_of_pos _ h0')⟩
      · rw [if_neg hz]
        exact ⟨_, _, rfl, ⟨xs, pos, cur / l, left - 1, step + 1, true, rfl, by omega, by omega, by omega⟩, Int.emod_nonneg _ (by omega), .inl (Int.emod_lt_of_pos _ h0')⟩
theorem draw_ok {d : D} {l : Int} (h : Dr d) (hl : l < 2 ^ 100) : ∃ (n : Int) (d' : D), m__law_draw [.lnd d, .imm (.int l)] = .ok (.val (.int n)) [.lnd d', .no] ∧ Dr d' ∧ 0 ≤ n ∧ (n < l ∨ n = 0) := by
  obtain ⟨xs, pos, cur, left, step, big, rfl, h0, h1, h2⟩ := h
  by_cases hz : left = 0
  · subst hz
    by_cases hp : pos < xs.length
    · have hx : (xs.map D.int)[pos]? = some (.int xs[pos]) := by rw [List.getElem?_map, List.getElem?_eq_getElem hp]; rfl
      have hl' : l < 1267650600228229401496703205376 := hl
      by_cases hl2 : l < 2
      · by_cases hb : (1000000000000000000 : Int) ≤ xs[pos]
        · simp [m__law_draw, b__law_draw, drD, hl2, hp, atI_nat, hb]
          exact ⟨_, _, ⟨rfl, rfl⟩, ⟨xs, pos + 1, xs[pos], 60, 0, true, rfl, by omega, by omega, by omega⟩, by omega, by omega⟩
        · simp [m__law_draw, b__law_draw, drD, hl2, hp, atI_nat, hb]
          exact ⟨_, _, ⟨rfl, rfl⟩, ⟨xs, pos + 1, xs[pos], 8, 0, false, rfl, by omega, by omega, by omega⟩, by omega, by omega⟩
      · have h0' : 0 < l := by omega
        by_cases hb : (1000000000000000000 : Int) ≤ xs[pos]
        · simp [m__law_draw, b__law_draw, drD, hl2, hp, atI_nat, hb, h0', hl']
          by_cases hz : xs[pos] / l = 0
          · rw [if_pos hz]
            exact ⟨_, _, rfl, ⟨xs, pos + 1, xs[pos] / l, 0, 1, true, rfl, by omega, by omega, by omega⟩, Int.emod_nonneg _ (by omega), .inl (Int.emod_lt_of_pos _ h0')⟩
          · rw [if_neg hz]
            exact ⟨_, _, rfl, ⟨xs, pos + 1, xs[pos] / l, 59, 1, true, rfl, by omega, by omega, by omega⟩, Int.emod_nonneg _ (by omega), .inl (Int.emod_lt_of_pos _ h0')⟩
        · simp [m__law_draw, b__law_draw, drD, hl2, hp, atI_nat, hb, h0', hl']
          exact ⟨_, _, ⟨rfl, rfl⟩, ⟨xs, pos + 1, xs[pos], 7, 1, false, rfl, by omega, by omega, by omega⟩, Int.emod_nonneg _ (by omega), .inl (Int.emod_lt_of_pos _ h0')⟩
    · simp [m__law_draw, b__law_draw, drD, hp]
      exact ⟨_, _, ⟨rfl, rfl⟩, ⟨xs, pos, cur, 0, step, big, rfl, by omega, by omega, by omega⟩, by omega, by omega⟩
  · exact draw_go (by omega) h1 h2 hl
/-! ### same -/
theorem same_step {n i : Nat} {ds : List D} {s1 s2 : Sl} {d e : D} (hd : d = .lst ds ∨ d = .tup ds) (h1 : SlD s1 d) (h2 : SlD s2 d) (hg : ds[i]? = some e) (hs : m__law_same n [.imm e, .imm e] = .ok (.val (.bl true)) [.no, .no]) : b__law_same_L1 (m__law_same n) [s1, s2, .imm (.int i)] = .ok .nx [s1, s2, .imm (.int i)] := by
  unfold b__law_same_L1
  rcases hd with rfl | rfl <;> rcases h1 with rfl | rfl <;> rcases h2 with rfl | rfl <;> simp [atI_nat, hg, hs]
theorem same_loop {n : Nat} {ds : List D} {s1 s2 : Sl} {d : D} (hd : d = .lst ds ∨ d = .tup ds) (h1 : SlD s1 d) (h2 : SlD s2 d) (ih : ∀ e ∈ ds, m__law_same n [.imm e, .imm e] = .ok (.val (.bl true)) [.no, .no]) : ∃ G', fLoop (gN 2) (b__law_same_L1 (m__law_same n)) (rangeD 0 ds.length) [s1, s2, .no] = .ok .nx G' ∧ ∃ y, G' = [s1, s2, y] := by
  obtain ⟨G', e1, e2⟩ := fLoop_ix (ds := rangeD 0 ds.length) (G := [s1, s2, .no]) (g := gN 2) (b := b__law_same_L1 (m__law_same n)) (fun _ G => ∃ y, (y = .no ∨ ∃ d, y = .imm d) ∧ G = [s1, s2, y]) ⟨_, .inl rfl, rfl⟩ (fun i e G hi ⟨y, hy, hG⟩ => by
    obtain ⟨hj, rfl⟩ := rangeD_get hi
    subst hG
    rw [Int.zero_add]
    refine ⟨[s1, s2, .imm (.int i)], .nx, [s1, s2, .imm (.int i)], ?_, same_step hd h1 h2 (List.getElem?_eq_getElem hj) (ih ds[i] (List.getElem_mem hj)), .inl rfl, _, .inr ⟨_, rfl⟩, rfl⟩
    rcases hy with rfl | ⟨_, rfl⟩ <;> simp)
  obtain ⟨y, _, e2⟩ := e2
  exact ⟨G', e1, y, e2⟩
theorem same_seq {n : Nat} {ds : List D} {s1 s2 : Sl} {d : D} (hd : d = .lst ds ∨ d = .tup ds) (h1 : SlD s1 d) (h2 : SlD s2 d) (hl : (ds.length : Int) < 1000000) (ih : ∀ e ∈ ds, m__law_same n [.imm e, .imm e] = .ok (.val (.bl true)) [.no, .no]) : m__law_same (n + 1) [s1, s2] = .ok (.val (.bl true)) [.no, .no] := by
  have hl' := rOk_nat (n := ds.length) (by omega)
  obtain ⟨G', e1, y, rfl⟩ := same_loop hd h1 h2 ih
  rcases hd with rfl | rfl <;> rcases h1 with rfl | rfl <;> rcases h2 with rfl | rfl <;> simp [m__law_same, b__law_same, hl', e1]
theorem same_ok : ∀ (n : Nat) (d : D), plD n d = true → ∀ s1 s2, SlD s1 d → SlD s2 d → m__law_same (n + 1) [s1, s2] = .ok (.val (.bl true)) [.no, .no] := by
  intro n
  induction n with
  | zero =>
    intro d h s1 s2 h1 h2
    cases d <;> first
      | (simp [plD] at h; done)
      | (rcases h1 with rfl | rfl <;> rcases h2 with rfl | rfl <;> simp [m__law_same, b__law_same])
  | succ n ih =>
    intro d h s1 s2 h1 h2
    cases d with
    | lst ds =>
      simp [plD] at h
      exact same_seq (.inl rfl) h1 h2 (by omega) fun e he => ih e (h.2 e he) _ _ (.inl rfl) (.inl rfl)
    | tup ds =>
      simp [plD] at h
      exact same_seq (.inr rfl) h1 h2 (by omega) fun e he => ih e (h.2 e he) _ _ (.inl rfl) (.inl rfl)
    | _ => first
      | (simp [plD] at h; done)
      | (rcases h1 with rfl | rfl <;> rcases h2 with rfl | rfl <;> simp [m__law_same, b__law_same])
end Pk62

namespace Pk62
open PySem PySem.Spec PD
def RUL : List Str := [("own" : Str), "onward", "queue", "carry", "link", "clock", "steady", "prefix", "real", "serial"]
theorem map_all {α β : Type} {f g : α → β} {l : List α} (h : l.map f = l.map g) : ∀ a ∈ l, f a = g a := List.map_inj_left.mp h
def kn (x : Str) : D := match m_known [.imm (.str x)] with
  | .ok (.fr d) _ => d
  | _ => .non
def paD (x : Str) : D := match m__law_parts_due [.imm (.str x)] with
  | .ok (.val d) _ => d
  | _ => .non
def knR (x : Str) : List D := match kn x with
  | .obj _ _ (_ :: r) => r
  | _ => []
theorem kn_ok : ∀ x ∈ RUL, m_known [.imm (.str x)] = .ok (.fr (kn x)) [.no] := map_all (by kernel_rfl)
theorem kn_obj : ∀ x ∈ RUL, kn x = .obj 99 [37, 102, 103, 70] (.str x :: knR x) := map_all (by kernel_rfl)
theorem parts_ok : ∀ x ∈ RUL, m__law_parts [.imm (kn x)] = .ok (.val (paD x)) [.no] := map_all (by kernel_rfl)
theorem due_ok : ∀ x ∈ RUL, m__law_parts_due [.imm (.str x)] = .ok (.val (paD x)) [.no] := map_all (by kernel_rfl)
theorem plD_pa : ∀ x ∈ RUL, plD 4 (paD x) = true := map_all (by kernel_rfl)
theorem ten_ok : m__law_ten [] = .ok (.fr (.lst (RUL.map D.str))) [] := by kernel_rfl
theorem rul_nodup : RUL.Nodup := by decide +kernel
/-! ### rules checked -/
def TEN : D := .tup [.str "own", .str "onward", .str "queue", .str "carry", .str "link", .str "clock", .str "steady", .str "prefix", .str "real", .str "serial"]
theorem ten_eq : TEN = .tup (RUL.map D.str) := rfl
theorem chk1 {x : Str} {G : List Sl} (h1 : G[1]? = some (.imm (.str x))) : b_check_rules_L1 G = if x ∈ RUL then .ok .nx G else .ex 8 [37] [.str x] G := by
  have e0 := kIn_tstr (neg := true) (x := x) (ys := RUL)
  rw [← ten_eq] at e0
  unfold b_check_rules_L1
  show cIf (cTB (cBin (kIn true) (cVar 1) (cC TEN))) (cRaise1 8 37 (cVar 1)) cNil G = _
  by_cases hx : x ∈ RUL
  · simp [h1, e0, hx]
  · simp [h1, e0, hx]
theorem seqOf_tup {ds : List D} : seqOf (.tup ds) = some ds := rfl
theorem seqOf_lst {ds : List D} : seqOf (.lst ds) = some ds := rfl
theorem check_ok {d : D} {xs : List Str} (hd : d = .tup (xs.map D.str) ∨ d = .lst (xs.map D.str)) (hx : ∀ x ∈ xs, x ∈ RUL) : m_check_rules [.imm d] = .ok (.val .non) [.no] := by
  obtain ⟨s, hs, e⟩ := fLoop_pure (v := 1) (b := b_check_rules_L1) (ds := xs.map D.str) (G := [.imm d, .no]) rfl .no (by
    intro d hd
    obtain ⟨x, h, rfl⟩ := List.mem_map.mp hd
    exact ⟨.nx, by rw [chk1 (x := x) rfl, if_pos (hx x h)], .inl rfl⟩)
  have e2 : b_check_rules [.imm d, .no] = .ok .nx [.imm d, s] := by
    unfold b_check_rules
    rcases hd with rfl | rfl <;> simp [e]
  show mkFn 1 1 b_check_rules [.imm d] = _
  unfold mkFn
  rcases hs with rfl | ⟨_, rfl⟩ <;> simp [e2]
theorem check_bad {d : D} {xs : List Str} {i : Nat} {y : Str} (hd : d = .tup (xs.map D.str) ∨ d = .lst (xs.map D.str)) (hi : xs[i]? = some y) (hy : y ∉ RUL) (hx : ∀ j < i, ∀ x, xs[j]? = some x → x ∈ RUL) : m_check_rules [.imm d] = .ex 8 [37] [.str y] [.no] := by
  have e := fLoop_find (v := 1) (b := b_check_rules_L1) (ds := xs.map D.str) (G := [.imm d, .no]) (i := i) (d := .str y) (r := .ex 8 [37] [.str y] [.imm d, .imm (.str y)]) rfl .no (by rw [List.getElem?_map, hi]; rfl) (by
    intro j hj d hd
    rw [List.getElem?_map, Option.map_eq_some_iff] at hd
    obtain ⟨x, h, rfl⟩ := hd
    exact ⟨.nx, by rw [chk1 (x := x) rfl, if_pos (hx j hj x h)], .inl rfl⟩) (by rw [chk1 (x := y) rfl, if_neg hy]; rfl) (by simp) (by simp) (by simp)
  have e2 : b_check_rules [.imm d, .no] = .ex 8 [37] [.str y] [.imm d, .imm (.str y)] := by
    unfold b_check_rules
    rcases hd with rfl | rfl <;> simp [e]
  show mkFn 1 1 b_check_rules [.imm d] = _
  unfold mkFn
  simp [e2]
/-! ### in_order -/
def inD (xs : List Str) : D → Bool
  | .str x => decide (x ∈ xs)
  | _ => false
def sel (xs : List Str) : List Str := RUL.filter fun x => decide (x ∈ xs)
theorem filter_map {xs : List Str} : (RUL.map D.str).filter (inD xs) = (sel xs).map D.str := by
  rw [List.filter_map]; rfl
theorem sel_mem {xs : List Str} : ∀ x ∈ sel xs, x ∈ RUL := fun x h => (List.mem_filter.mp h).1
theorem sel_nodup {xs : List Str} : (sel xs).Nodup := rul_nodup.filter _
theorem sel_len {xs : List Str} : (sel xs).length ≤ 10 := by
  have := List.length_filter_le (fun x => decide (x ∈ xs)) RUL
  exact this
theorem comp_sel {xs : List Str} {G : List Sl} {s0 : Sl} {t : D} (ht : t = .tup (xs.map D.str) ∨ t = .lst (xs.map D.str)) (h0 : G[0]? = some (.imm t) ∨ G[0]? = some (.bor t)) (h1 : G[1]? = some s0) (hn : Nb s0) {src : F (List D)} (hs : src G = .ok (RUL.map D.str) G) {f : EF} {F : D → D}
    (hf : ∀ x ∈ RUL, ∃ pv, f (G.set 1 (.imm (.str x))) = .ok pv (G.set 1 (.imm (.str x))) ∧ escV pv = some (F (.str x))) :
    cLC src [1] (gN 1) (cTB (cBin (kIn false) (cVar 1) (cVar 0))) f G = .ok (.fr (.lst ((sel xs).map fun x => F (.str x)))) G := by
  have hlt := (List.getElem?_eq_some_iff.mp h1).1
  have e := cLC_filter (src := src) (v := 1) (t := cTB (cBin (kIn false) (cVar 1) (cVar 0))) (f := f) (G := G) (G1 := G) (ds := RUL.map D.str) (s0 := s0) (inD xs) F hs h1 hn (by decide) (by
    intro d hd
    obtain ⟨x, hx, rfl⟩ := List.mem_map.mp hd
    have a1 : (G.set 1 (.imm (.str x)))[1]? = some (.imm (.str x)) := by rw [List.getElem?_set_self hlt]
    have a0 : (G.set 1 (.imm (.str x)))[0]? = G[0]? := by rw [List.getElem?_set_ne (by decide)]
    have k1 := kIn_tstr (neg := false) (x := x) (ys := xs)
    have k2 := kIn_lstr (neg := false) (x := x) (ys := xs)
    rcases h0 with h0 | h0 <;> rcases ht with rfl | rfl <;> simp [a1, a0, h0, k1, k2, inD]) (by
    intro d hd _
    obtain ⟨x, hx, rfl⟩ := List.mem_map.mp hd
    exact hf x hx)
  rw [e, filter_map, List.map_map]; rfl
theorem order_ok {xs : List Str} (hx : ∀ x ∈ xs, x ∈ RUL) : m_in_order [.imm (.tup (xs.map D.str))] = .ok (.val (.tup ((sel xs).map D.str))) [.no] := by
  have e1 := check_ok (d := .tup (xs.map D.str)) (xs := xs) (.inl rfl) hx
  have e2 := comp_sel (xs := xs) (G := [.imm (.tup (xs.map D.str)), .no]) (s0 := .no) (.inl rfl) (.inl rfl) rfl .no (src := sSeq (cC TEN)) (by rw [ten_eq]; simp) (f := cVar 1) (F := fun d => d) (fun x _ => ⟨.val (.str x), by simp, rfl⟩)
  unfold m_in_order
  refine fn_of (sq (by simp [e1] <;> rfl) (?_ : cRet (cCB kTuple (aCons (cLC (sSeq (cC TEN)) [1] (gN 1) (cTB (cBin (kIn false) (cVar 1) (cVar 0))) (cVar 1)) aNil)) _ = .ok (.ret (.val (.tup ((sel xs).map D.str)))) [.imm (.tup (xs.map D.str)), .no])) (by simp)
  simp [e2]
theorem order_bad {xs : List Str} {i : Nat} {y : Str} (hi : xs[i]? = some y) (hy : y ∉ RUL) (hx : ∀ j < i, ∀ x, xs[j]? = some x → x ∈ RUL) : m_in_order [.imm (.tup (xs.map D.str))] = .ex 8 [37] [.str y] [.no] := by
  have e1 := check_bad (d := .tup (xs.map D.str)) (xs := xs) (.inl rfl) hi hy hx
  unfold m_in_order mkFn b_in_order
  simp [e1]
/-! ### the lot -/
theorem rep_step {ys : List Str} (hy : ∀ x ∈ ys, x ∈ RUL) {done : List Str} {x : Str} {s0 : Sl} (hx : x ∈ RUL) (hd : x ∉ done) (hl : done.length < 1000000) : b_repeated_name_L1 [s0, .own (.lst (done.map D.str)), .imm (kn x)] = .ok .nx [s0, .own (.lst ((done ++ [x]).map D.str)), .imm (kn x)] := by
  have e1 := kn_obj x hx
  have k2 := kIn_lstr (neg := false) (x := x) (ys := done)
  rw [decide_eq_false hd] at k2
  unfold b_repeated_name_L1
  rw [e1]
  simp [k2, hl]
theorem repeated_ok {ys : List Str} (hy : ∀ x ∈ ys, x ∈ RUL) (hn : ys.Nodup) (hl : ys.length ≤ 10) : m_repeated_name [.imm (.tup (ys.map kn))] = .ok (.val .non) [.no] := by
  obtain ⟨G', e, z, hz, rfl⟩ := fLoop_ix (g := gN 2) (b := b_repeated_name_L1) (ds := ys.map kn) (G := [.imm (.tup (ys.map kn)), .own (.lst []), .no])
    (fun i G => ∃ z, Nb z ∧ G = [.imm (.tup (ys.map kn)), .own (.lst ((ys.take i).map D.str)), z]) ⟨.no, .no, rfl⟩ (fun i d G hi ⟨z, hz, hG⟩ => by
      subst hG
      rw [List.getElem?_map, Option.map_eq_some_iff] at hi
      obtain ⟨x, hx, rfl⟩ := hi
      obtain ⟨hlt, hx2⟩ := List.getElem?_eq_some_iff.mp hx
      have et : ys.take (i + 1) = ys.take i ++ [x] := by rw [List.take_succ, hx]; rfl
      have hd : x ∉ ys.take i := by
        intro hm
        obtain ⟨j, hj, hj2⟩ := List.mem_take_iff_getElem.mp hm
        have hj3 : j < i := by omega
        exact (List.pairwise_iff_getElem.mp hn) j i (by omega) hlt hj3 (by rw [hj2, hx2])
      refine ⟨[.imm (.tup (ys.map kn)), .own (.lst ((ys.take i).map D.str)), .imm (kn x)], .nx, _, ?_, rep_step hy (hy x (List.mem_of_getElem? hx)) hd (by rw [List.length_take]; omega), .inl rfl, .imm (kn x), .imm, by rw [et]⟩
      rcases hz with rfl | ⟨_, rfl⟩ <;> simp)
  unfold m_repeated_name
  exact fn_of (sq (by simp <;> rfl) (sq (by simp [e] <;> rfl) (by simp <;> rfl))) (by rcases hz with rfl | ⟨_, rfl⟩ <;> simp)
def lotD (ys : List Str) : D := .obj 108 [107] [.lst (ys.map kn)]
theorem init_ok {ys : List Str} (hy : ∀ x ∈ ys, x ∈ RUL) (hn : ys.Nodup) (hl : ys.length ≤ 10) : m_Lot___init__ [.lnd (.obj 108 [] []), .imm (.tup (ys.map kn))] = .ok (.val .non) [.lnd (lotD ys), .no] := by
  have e1 := repeated_ok hy hn hl
  have hl2 : ¬ (12 : Int) < (ys.length : Int) := by omega
  unfold m_Lot___init__
  exact fn_of (sq (by simp [hl2] <;> rfl) (sq (by simp [e1] <;> rfl) (sq (by simp <;> rfl) (by simp <;> rfl)))) (by simp [lotD])
theorem escs_comp {ys : List Str} {G : List Sl} : escs (List.map (PV.val ∘ kn) ys) G = some (ys.map kn, G) := by
  rw [← List.map_map, escs_vals]
theorem lot_ok {ys : List Str} (hy : ∀ x ∈ ys, x ∈ RUL) (hn : ys.Nodup) (hl : ys.length ≤ 10) : m_lot_of [.imm (.lst (ys.map kn))] = .ok (.fr (lotD ys)) [.no] := by
  have e1 := init_ok hy hn hl
  have hl2 : ys.length ≤ 1000 := by omega
  unfold m_lot_of mkFn b_lot_of
  simp [e1, hl2, escs_comp]
theorem rlot_ok {xs : List Str} (hx : ∀ x ∈ xs, x ∈ RUL) : m_rule_lot [.imm (.tup (xs.map D.str))] = .ok (.fr (lotD (sel xs))) [.no] := by
  have e1 := order_ok hx
  have e2 := lot_ok (ys := sel xs) sel_mem sel_nodup sel_len
  have e3 := cLC_map (src := sSeq (cCall m_in_order [.b] (aCons (cVar 0) (aNil)))) (v := 1) (f := cCall m_known [.b] (aCons (cVar 1) (aNil))) (G := [.imm (.tup (xs.map D.str)), .no]) (G1 := [.imm (.tup (xs.map D.str)), .no]) (ds := (sel xs).map D.str) (s0 := .no) (fun d => match d with
    | .str x => kn x
    | _ => .non) (by simp [e1]) rfl .no (by have := @sel_len xs; simp; omega) (by
    intro d hd
    obtain ⟨x, hx, rfl⟩ := List.mem_map.mp hd
    have e := kn_ok x (sel_mem x hx)
    exact ⟨.fr (kn x), by simp [e], rfl⟩)
  rw [List.map_map] at e3
  have e4 : ((fun d => match d with
    | .str x => kn x
    | _ => .non) ∘ D.str) = kn := rfl
  rw [e4] at e3
  unfold m_rule_lot mkFn b_rule_lot
  simp [e3, e2]
theorem rlot_bad {xs : List Str} {i : Nat} {y : Str} (hi : xs[i]? = some y) (hy : y ∉ RUL) (hx : ∀ j < i, ∀ x, xs[j]? = some x → x ∈ RUL) : m_rule_lot [.imm (.tup (xs.map D.str))] = .ex 8 [37] [.str y] [.no] := by
  have e1 := order_bad hi hy hx
  have e2 : cLC (sSeq (cCall m_in_order [.b] (aCons (cVar 0) (aNil)))) [1] (gN 1) (tYesD) (cCall m_known [.b] (aCons (cVar 1) (aNil))) [.imm (.tup (xs.map D.str)), .no] = .ex 8 [37] [.str y] [.imm (.tup (xs.map D.str)), .no] := by
    unfold cLC
    simp [e1]
  unfold m_rule_lot mkFn b_rule_lot
  simp [e2]
/-! ### the law's call of it -/
def RdL (s : Sl) (ds : List D) : Prop := s = .imm (.lst ds) ∨ s = .bor (.lst ds)
theorem call_eq {xs : List Str} {s : Sl} (hs : RdL s (xs.map D.str)) (hl : xs.length ≤ 6) {r : R PV} (hr : m_rule_lot [.imm (.tup (xs.map D.str))] = r) (hok : (∃ d, r = .ok (.fr d) [.no]) ∨ ∃ c ns ds, r = .ex c ns ds [.no]) : m__law_rule_lot [s] = r := by
  match xs, hl with
  | [], _ => rcases hok with ⟨d, rfl⟩ | ⟨c, ns, ds, rfl⟩ <;> rcases hs with rfl | rfl <;> simp at hr <;> simp [m__law_rule_lot, b__law_rule_lot, hr]
  | [a], _ => rcases hok with ⟨d, rfl⟩ | ⟨c, ns, ds, rfl⟩ <;> rcases hs with rfl | rfl <;> simp at hr <;> simp [m__law_rule_lot, b__law_rule_lot, hr]
  | [a, b], _ => rcases hok with ⟨d, rfl⟩ | ⟨c, ns, ds, rfl⟩ <;> rcases hs with rfl | rfl <;> simp at hr <;> simp [m__law_rule_lot, b__law_rule_lot, hr]
  | [a, b, c1], _ => rcases hok with ⟨d, rfl⟩ | ⟨c, ns, ds, rfl⟩ <;> rcases hs with rfl | rfl <;> simp at hr <;> simp [m__law_rule_lot, b__law_rule_lot, hr]
  | [a, b, c1, d1], _ => rcases hok with ⟨d, rfl⟩ | ⟨c, ns, ds, rfl⟩ <;> rcases hs with rfl | rfl <;> simp at hr <;> simp [m__law_rule_lot, b__law_rule_lot, hr]
  | [a, b, c1, d1, e1], _ => rcases hok with ⟨d, rfl⟩ | ⟨c, ns, ds, rfl⟩ <;> rcases hs with rfl | rfl <;> simp at hr <;> simp [m__law_rule_lot, b__law_rule_lot, hr]
  | [a, b, c1, d1, e1, f1], _ => rcases hok with ⟨d, rfl⟩ | ⟨c, ns, ds, rfl⟩ <;> rcases hs with rfl | rfl <;> simp at hr <;> simp [m__law_rule_lot, b__law_rule_lot, hr]
/-! ### what is told, what is due -/
theorem parts_bor : ∀ x ∈ RUL, m__law_parts [.bor (kn x)] = .ok (.val (paD x)) [.no] := map_all (by kernel_rfl)
def tolD (xs : List Str) : D := .tup [.str "told", .lst ((sel xs).map paD)]
def unkD (y : Str) : D := .tup [.str "unknown", .str y, .bl true]
def knF : D → D
  | .obj _ _ (.str x :: _) => paD x
  | _ => .non
theorem knF_eq {x : Str} (hx : x ∈ RUL) : knF (kn x) = paD x := by rw [kn_obj x hx]; rfl
theorem parts_lc {ys : List Str} {G : List Sl} {src : F (List D)} {v : Nat} {s0 : Sl} (hs : src G = .ok (ys.map kn) G) (hv : G[v]? = some s0) (hn : Nb s0) (hy : ∀ x ∈ ys, x ∈ RUL) (hl : ys.length ≤ 10) :
    cLC src [v] (gN v) tYesD (cCall m__law_parts [.b] (aCons (cVar v) aNil)) G = .ok (.fr (.lst (ys.map paD))) G := by
  have hlt := (List.getElem?_eq_some_iff.mp hv).1
  have e := cLC_map (src := src) (v := v) (f := cCall m__law_parts [.b] (aCons (cVar v) aNil)) (G := G) (G1 := G) (ds := ys.map kn) (s0 := s0) knF hs hv hn (by simp; omega) (by
    intro d hd
    obtain ⟨x, hx, rfl⟩ := List.mem_map.mp hd
    have e1 := parts_ok x (hy x hx)
    have a1 : (G.set v (.imm (kn x)))[v]? = some (.imm (kn x)) := by rw [List.getElem?_set_self hlt]
    exact ⟨.val (paD x), by simp [a1, e1], by rw [knF_eq (hy x hx)]; rfl⟩)
  rw [e, List.map_map]
  have : ys.map (knF ∘ kn) = ys.map paD := List.map_congr_left fun x hx => knF_eq (hy x hx)
  rw [this]
theorem iter_ok {ys : List Str} {G : List Sl} {i : Nat} (h : G[i]? = some (.own (lotD ys))) : sIterO 108 107 (cVar i) G = .ok (ys.map kn) G := by
  simp [h, lotD]
theorem told_ok {xs : List Str} {s : Sl} (hs : RdL s (xs.map D.str)) (hl : xs.length ≤ 6) (hx : ∀ x ∈ xs, x ∈ RUL) : m__law_lot_told [s] = .ok (.val (tolD xs)) [.no] := by
  have e1 := call_eq hs hl (rlot_ok hx) (.inl ⟨_, rfl⟩)
  have e2 := parts_lc (ys := sel xs) (G := [s, .own (lotD (sel xs)), .no, .no, .no]) (src := sIterO 108 107 (cVar 1)) (v := 4) (s0 := .no) (iter_ok rfl) rfl .no sel_mem sel_len
  unfold m__law_lot_told
  simp only [lotD] at e1 e2
  rcases hs with rfl | rfl
  · exact fn_of (sq (by simp [e1] <;> rfl) (sq (by simp [objs] <;> rfl) (by simp [e2] <;> rfl))) (by simp [tolD])
  · exact fn_of (sq (by simp [e1] <;> rfl) (sq (by simp [objs] <;> rfl) (by simp [e2] <;> rfl))) (by simp [tolD])
theorem told_bad {xs : List Str} {s : Sl} {i : Nat} {y : Str} (hs : RdL s (xs.map D.str)) (hl : xs.length ≤ 6) (hi : xs[i]? = some y) (hy : y ∉ RUL) (hx : ∀ j < i, ∀ x, xs[j]? = some x → x ∈ RUL) : m__law_lot_told [s] = .ok (.val (unkD y)) [.no] := by
  have e1 := call_eq hs hl (rlot_bad hi hy hx) (.inr ⟨_, _, _, rfl⟩)
  unfold m__law_lot_told mkFn b__law_lot_told
  rcases hs with rfl | rfl <;> simp [e1, rtb_UnknownName, raised, List.lookup, unkD]
theorem ldue_ok {xs : List Str} {s : Sl} (hs : RdL s (xs.map D.str)) : m__law_lot_due [s] = .ok (.val (tolD xs)) [.no] := by
  have h0 : ∃ t, (t = .tup (xs.map D.str) ∨ t = .lst (xs.map D.str)) ∧ ([s, .no][0]? = some (.imm t) ∨ [s, .no][0]? = some (.bor t)) := by
    rcases hs with rfl | rfl
    · exact ⟨_, .inr rfl, .inl rfl⟩
    · exact ⟨_, .inr rfl, .inr rfl⟩
  obtain ⟨t, h1, h2⟩ := h0
  have e2 := comp_sel (xs := xs) (G := [s, .no]) (s0 := .no) h1 h2 rfl .no (src := sSeq (cCall m__law_ten [] aNil)) (by simp [ten_ok]) (f := cCall m__law_parts_due [.e] (aCons (cVar 1) aNil)) (F := fun d => match d with
    | .str x => paD x
    | _ => .non) (fun x hx => ⟨.val (paD x), by simp [due_ok x hx], rfl⟩)
  unfold m__law_lot_due mkFn b__law_lot_due
  rcases hs with rfl | rfl <;> simp [e2, tolD]
theorem prom_ok {x : Str} (hx : x ∈ RUL) : m__law_promise_told [.imm (.str x)] = .ok (.val (.tup [.str "told", paD x])) [.no] := by
  have e1 := check_ok (d := .lst [.str x]) (xs := [x]) (.inr rfl) (by simpa using hx)
  have e2 := kn_ok x hx
  have e3 := parts_bor x hx
  have e4 : m_rule_promise [.imm (.str x)] = .ok (.fr (kn x)) [.no] := by
    unfold m_rule_promise
    exact fn_of (sq (by simp [e1] <;> rfl) (by simp [e2] <;> rfl)) (by simp)
  unfold m__law_promise_told
  exact fn_of (sq (by simp [e4] <;> rfl) (by simp [e3] <;> rfl)) (by simp)
theorem prom_bad {x : Str} (hx : x ∉ RUL) : m__law_promise_told [.imm (.str x)] = .ok (.val (unkD x)) [.no] := by
  have e1 := check_bad (d := .lst [.str x]) (xs := [x]) (i := 0) (.inr rfl) rfl hx (by simp)
  have e4 : m_rule_promise [.imm (.str x)] = .ex 8 [37] [.str x] [.no] := by
    unfold m_rule_promise mkFn b_rule_promise
    simp [e1]
  unfold m__law_promise_told mkFn b__law_promise_told
  simp [e4, rtb_UnknownName, raised, List.lookup, unkD]
theorem tol_pl {xs : List Str} : plD 6 (tolD xs) = true := by
  have h : ∀ x ∈ sel xs, plD 4 (paD x) = true := fun x hx => plD_pa x (sel_mem x hx)
  have hl := @sel_len xs
  have hl2 : (sel xs).length < 1000000 := by omega
  simp [tolD, plD, hl2]
  exact h
theorem same_tol {xs : List Str} : m__law_same 7 [.imm (tolD xs), .imm (tolD xs)] = .ok (.val (.bl true)) [.no, .no] := same_ok 6 _ tol_pl _ _ (.inl rfl) (.inl rfl)
theorem same_unk {y : Str} : m__law_same 7 [.imm (unkD y), .imm (unkD y)] = .ok (.val (.bl true)) [.no, .no] := same_ok 6 _ rfl _ _ (.inl rfl) (.inl rfl)
/-! ### the law -/
def MEN : List Str := [("inorder" : Str), "behind", "through", "session", "history", "OWN", "own ", ""]
theorem men_no : ∀ x ∈ MEN, x ∉ RUL := by decide +kernel
theorem men_at {k : Int} (h0 : 0 ≤ k) (h1 : k < 8) : ∃ y ∈ MEN, L2.atI (MEN.map D.str) k = some (.str y) := by
  obtain ⟨k, rfl⟩ := Int.eq_ofNat_of_zero_le h0
  have hk : k < MEN.length := by
    show k < 8
    omega
  exact ⟨MEN[k], List.getElem_mem hk, by rw [atI_nat, List.getElem?_map, List.getElem?_eq_getElem hk]; rfl⟩
theorem rul_at {k : Int} (h0 : 0 ≤ k) (h1 : k < 10) : ∃ y ∈ RUL, L2.atI (RUL.map D.str) k = some (.str y) := by
  obtain ⟨k, rfl⟩ := Int.eq_ofNat_of_zero_le h0
  have hk : k < RUL.length := by
    show k < 10
    omega
  exact ⟨RUL[k], List.getElem_mem hk, by rw [atI_nat, List.getElem?_map, List.getElem?_eq_getElem hk]; rfl⟩
theorem cut_take {α : Type} {ps : List α} {a : Nat} (h : a ≤ ps.length) : cutL ps none (some (a : Int)) = ps.take a := by
  unfold cutL
  have h1 : HT.sIx ps.length 0 none = 0 := rfl
  have h2 : HT.sIx ps.length ps.length (some (a : Int)) = a := by rw [HT.sIx_nat]; omega
  rw [h1, h2]
  simp
theorem cut_drop {α : Type} {ps : List α} {a : Nat} (h : a ≤ ps.length) : cutL ps (some (a : Int)) none = ps.drop a := by
  unfold cutL
  have h1 : HT.sIx ps.length 0 (some (a : Int)) = a := by rw [HT.sIx_nat]; omega
  have h2 : HT.sIx ps.length ps.length none = ps.length := rfl
  rw [h1, h2]
  exact List.take_of_length_le (by simp)
theorem sel_rev {xs : List Str} : sel xs.reverse = sel xs := by
  unfold sel
  simp only [List.mem_reverse]
theorem sel_all : sel RUL = RUL := by decide +kernel
theorem L1_ok {x : Str} {G : List Sl} (hx : x ∈ RUL) (h : G[10]? = some (.imm (.str x))) : b_law_L1 G = .ok .nx G := by
  have e1 := prom_ok hx
  have e2 := due_ok x hx
  have e3 := told_ok (xs := [x]) (s := .imm (.lst [.str x])) (.inl rfl) (by simp) (by simpa using hx)
  have e4 := ldue_ok (xs := [x]) (s := .imm (.lst [.str x])) (.inl rfl)
  have e5 := same_tol (xs := [x])
  have e6 : m__law_same 7 [.imm (.tup [.str "told", paD x]), .imm (.tup [.str "told", paD x])] = .ok (.val (.bl true)) [.no, .no] := same_ok 6 _ (by
    have h := plD_pa x hx
    have h5 : plD 5 (paD x) = true := by
      have : ∀ x ∈ RUL, plD 5 (paD x) = true := map_all (by kernel_rfl)
      exact this x hx
    simp [plD, h5]) _ _ (.inl rfl) (.inl rfl)
  unfold b_law_L1
  simp [h, e1, e2, e3, e4, e5, e6]
theorem L2_ok {x : Str} {G : List Sl} (hx : x ∉ RUL) (h : G[10]? = some (.imm (.str x))) : b_law_L2 G = .ok .nx G := by
  have e1 := prom_bad hx
  have e5 := same_unk (y := x)
  simp only [unkD] at e1 e5
  unfold b_law_L2
  simp [h, e1, e5]
theorem law_ok (ns : List Int) (hl : ns.length ≤ 63) (hb : ∀ z ∈ ns, Builtin.Int.intBits z ≤ 1048576) : ∃ A1, m_law [.imm (.fz (ns.map D.int))] = .ok (.val (.bl true)) A1 := by
  have e0 := start_ok ns
  generalize hS : Sl.imm (.fz (ns.map D.int)) = S0 at e0 ⊢
  have s1 : cSet 1 (cCall m__law_start [.b] (aCons (cVar 0) (aNil))) ([S0] ++ List.replicate 12 .no) = .ok .nx [S0, .own (drD ns 0 0 0 0 false), .no, .no, .no, .no, .no, .no, .no, .no, .no, .no, .no] := by
    subst hS; simp [e0]
  obtain ⟨n, d1, e1, h1, n0, n1⟩ := draw_ok (l := 5) (dr0 ns) (by decide)
  obtain ⟨n, rfl⟩ := Int.eq_ofNat_of_zero_le n0
  have hn : n < 5 := by omega
  have r1 : rOk (n : Int) = true := rOk_nat (by omega)
  obtain ⟨xs, s', e2, hl2, hx2, d2, rfl, h2⟩ := cLC_st (src := sRange1 (aCons (cCall m__law_draw [.m, .b] (aCons (cVar 1) (aCons (cC (.int 5)) (aNil)))) (aNil))) (v := 11) (i := 1) (f := cBin kIx (cVar 2) (cCall m__law_draw [.m, .b] (aCons (cVar 1) (aCons (cC (.int 10)) (aNil))))) (G := [S0, .own (drD ns 0 0 0 0 false), .own (.lst (RUL.map D.str)), .no, .no, .no, .no, .no, .no, .no, .no, .no, .no]) (G1 := [S0, .own d1, .own (.lst (RUL.map D.str)), .no, .no, .no, .no, .no, .no, .no, .no, .no, .no]) (ds := rangeD 0 n) (I := fun s => ∃ d, s = .own d ∧ Dr d) (P := fun x => ∃ r, x = D.str r ∧ r ∈ RUL)
    (by simp [e1, r1]) rfl .no rfl (by decide) ⟨d1, rfl, h1⟩ (by simp [rangeD]; omega) (fun d hd s hs => by
      obtain ⟨d', rfl, h⟩ := hs
      obtain ⟨k, d'', e, h', k0, k1⟩ := draw_ok (l := 10) h (by decide)
      obtain ⟨y, hy, e3⟩ := rul_at k0 (by omega)
      exact ⟨.val (.str y), .str y, .own d'', by simp [e, e3], rfl, ⟨d'', rfl, h'⟩, y, rfl, hy⟩)
  have hln : (rangeD 0 n).length = n := by simp [rangeD]
  obtain ⟨as, rfl, ha⟩ := map_of (f := D.str) (P := fun r => r ∈ RUL) hx2
  have hla : as.length ≤ 4 := by
    rw [List.length_map, hln] at hl2
    omega
  obtain ⟨b, d3, e3, h3, b0, b1⟩ := draw_ok (l := 8) h2 (by decide)
  obtain ⟨bad, hbad, f3⟩ := men_at b0 (by omega)
  obtain ⟨o, d4, e4, h4, o0, o1⟩ := draw_ok (l := 8) h3 (by decide)
  obtain ⟨oth, hoth, f4⟩ := men_at o0 (by omega)
  have nb := men_no _ hbad
  have no := men_no _ hoth
  obtain ⟨p, d5, e5, h5, p0, p1⟩ := draw_ok (l := ((as.length : Int) + 1)) h4 (by omega)
  obtain ⟨p, rfl⟩ := Int.eq_ofNat_of_zero_le p0
  have hp : p ≤ as.length := by omega
  have c1 := cut_take (ps := as) hp
  have c2 := cut_drop (ps := as) hp
  -- the spoilt list
  have hsp : ∀ j < (as.take p).length, ∀ x, (as.take p ++ ([bad] ++ (as.drop p ++ [oth])))[j]? = some x → x ∈ RUL := by
    intro j hj x hx
    rw [List.getElem?_append_left hj] at hx
    exact ha x (List.mem_of_mem_take (List.mem_of_getElem? hx))
  have hsp2 : (as.take p ++ ([bad] ++ (as.drop p ++ [oth])))[(as.take p).length]? = some bad := by
    rw [List.getElem?_append_right (Nat.le_refl _)]; simp
  have hsl : (as.take p ++ ([bad] ++ (as.drop p ++ [oth]))).length ≤ 6 := by simp; omega
  have t1 := told_ok (xs := as) (s := .bor (.lst (as.map D.str))) (.inr rfl) (by omega) ha
  have t2 := ldue_ok (xs := as) (s := .bor (.lst (as.map D.str))) (.inr rfl)
  have t3 := same_tol (xs := as)
  have t4 := told_bad (s := .bor (.lst ((as.take p ++ ([bad] ++ (as.drop p ++ [oth]))).map D.str))) (.inr rfl) hsl hsp2 nb hsp
  have t5 := same_unk (y := bad)
  have t6 := told_ok (xs := as.reverse) (s := .imm (.lst (as.reverse.map D.str))) (.inl rfl) (by simp; omega) (fun x hx => ha x (List.mem_reverse.mp hx))
  have t6b : tolD as.reverse = tolD as := by unfold tolD; rw [sel_rev]
  rw [t6b] at t6
  have t7 := rlot_ok (xs := RUL.reverse) (fun x hx => List.mem_reverse.mp hx)
  rw [sel_rev, sel_all] at t7
  have t8 := parts_lc (ys := RUL) (G := [S0, .own d5, .own (.lst (RUL.map D.str)), .own (.lst (as.map D.str)), .own (.lst (MEN.map D.str)), .imm (.str bad), .imm (.str oth), .imm (.int p), .own (.lst ((as.take p ++ ([bad] ++ (as.drop p ++ [oth]))).map D.str)), .own (lotD RUL), .no, .no, .no]) (src := sIterO 108 107 (cVar 9)) (v := 12) (s0 := .no) (iter_ok rfl) rfl .no (fun x h => h) (by decide)
  have t9 := ldue_ok (xs := RUL) (s := .bor (.lst (RUL.map D.str))) (.inr rfl)
  have t10 := same_tol (xs := RUL)
  have m1 : m__law_same 7 [.imm TEN, .imm (.tup (RUL.map D.str))] = .ok (.val (.bl true)) [.no, .no] := same_ok 6 _ rfl _ _ (.inl rfl) (.inl rfl)
  obtain ⟨z, nz, e6⟩ := fLoop_pure (v := 10) (b := b_law_L1) (ds := (RUL ++ as).map D.str) (G := [S0, .own d5, .own (.lst (RUL.map D.str)), .own (.lst (as.map D.str)), .own (.lst (MEN.map D.str)), .imm (.str bad), .imm (.str oth), .imm (.int p), .own (.lst ((as.take p ++ ([bad] ++ (as.drop p ++ [oth]))).map D.str)), .own (lotD RUL), .no, .no, .no]) rfl .no (by
    intro d hd
    obtain ⟨x, hx, rfl⟩ := List.mem_map.mp hd
    have hx2 : x ∈ RUL := by
      rcases List.mem_append.mp hx with h | h
      · exact h
      · exact ha x h
    exact ⟨_, L1_ok hx2 rfl, .inl rfl⟩)
  obtain ⟨z2, nz2, e7⟩ := fLoop_pure (v := 10) (b := b_law_L2) (ds := [.str bad, .str oth]) (G := [S0, .own d5, .own (.lst (RUL.map D.str)), .own (.lst (as.map D.str)), .own (.lst (MEN.map D.str)), .imm (.str bad), .imm (.str oth), .imm (.int p), .own (.lst ((as.take p ++ ([bad] ++ (as.drop p ++ [oth]))).map D.str)), .own (lotD RUL), z, .no, .no]) rfl nz (by
    intro d hd
    simp only [List.mem_cons, List.not_mem_nil, or_false] at hd
    rcases hd with rfl | rfl
    · exact ⟨_, L2_ok nb rfl, .inl rfl⟩
    · exact ⟨_, L2_ok no rfl, .inl rfl⟩)
  have q1 : min p as.length + 1 ≤ sizeLine := Nat.le_trans (by omega : _ ≤ 200) (by decide)
  have q2 : min p as.length + 1 + (as.length - p) ≤ sizeLine := Nat.le_trans (by omega : _ ≤ 200) (by decide)
  have q3 : min p as.length + (as.length - p + 1) + 1 ≤ sizeLine := Nat.le_trans (by omega : _ ≤ 200) (by decide)
  have q4 : as.length < 1000000 := by omega
  have h1 : ∃ G, b_law ([S0] ++ List.replicate 12 .no) = .ok (.ret (.val (.bl true))) G ∧ 1 ≤ G.length := by
    have t7b : m_rule_lot [.imm (.tup [.str "serial", .str "real", .str "prefix", .str "steady", .str "clock", .str "link", .str "carry", .str "queue", .str "onward", .str "own"])] = .ok (.fr (lotD RUL)) [.no] := t7
    rw [List.map_reverse] at t6
    simp only [TEN] at m1
    simp only [tolD, sel_all] at t1 t2 t3 t6 t9 t10
    simp only [unkD] at t4 t5
    have c3 : List.take p (as.map D.str) ++ D.str bad :: (List.drop p (as.map D.str) ++ [D.str oth]) = (as.take p ++ ([bad] ++ (as.drop p ++ [oth]))).map D.str := by simp
    generalize (as.take p ++ ([bad] ++ (as.drop p ++ [oth]))).map D.str = SPL at *
    rw [List.map_append] at e6
    have s4 : cSet 4 (cLst (aCons (cC (.str "inorder")) (aCons (cC (.str "behind")) (aCons (cC (.str "through")) (aCons (cC (.str "session")) (aCons (cC (.str "history")) (aCons (cC (.str "OWN")) (aCons (cC (.str "own ")) (aCons (cC (.str "")) (aNil)))))))))) [S0, .own d2, .own (.lst (RUL.map D.str)), .own (.lst (as.map D.str)), .no, .no, .no, .no, .no, .no, .no, .no, .no] = .ok .nx [S0, .own d2, .own (.lst (RUL.map D.str)), .own (.lst (as.map D.str)), .own (.lst (MEN.map D.str)), .no, .no, .no, .no, .no, .no, .no, .no] := by
      simp [MEN]
    have q5 : (RUL.map D.str).length + as.length ≤ sizeLine := Nat.le_trans (by rw [List.length_map]; have : RUL.length = 10 := rfl; omega : _ ≤ 200) (by decide)
    generalize hM : MEN.map D.str = ML at *
    generalize hR : RUL.map D.str = RL at *
    refine ⟨_, sq s1 (sq (by simp [ten_ok, hR] <;> rfl) (sq (by simp [e2] <;> rfl) (sq s4 (sq (by simp [e3, f3] <;> rfl) (sq (by simp [e4, f4] <;> rfl) (sq (by simp [e5] <;> rfl) (sq (by simp [cutD_map, c1, c2, c3, q1, q2, q3] <;> rfl) (sq (by simp [m1] <;> rfl) (sq (by simp [t1, t2, t3] <;> rfl) (sq (by simp [t4, t5] <;> rfl) (sq (by simp [t6, t2, t3] <;> rfl) (sq (by simp [t7b] <;> rfl) (sq (by simp [t8, t9, t10] <;> rfl) (sq (by simp [e6, q5] <;> rfl) (sq (by simp [e7] <;> rfl) (by simp <;> rfl)))))))))))))))), ?_⟩
    simp
  obtain ⟨G, h1, h2⟩ := h1
  exact ⟨_, fn_of h1 (by simp [h2]; rfl)⟩
end Pk62

/-! the law k62: each def does that -/
namespace Pk62
open PySem PySem.Spec L2 L2H PD PyProof.Rows

def top (i : Nat) : Stmt := PySem.Challenge.pw_promiseshapes_k62_rules_and_promises.main.body.getD i (.Pass ⟨0, 0, 0, 0⟩)
def inCls (s : Stmt) (i : Nat) : Stmt := match s with
  | .ClassDef (body := b) .. => b.getD i (.Pass ⟨0, 0, 0, 0⟩)
  | _ => .Pass ⟨0, 0, 0, 0⟩
abbrev Pg : Program := (PySem.Challenge.rw_promiseshapes_k62_rules_and_promises).prog
def d__law_start : He5.DefA := ⟨fun K => He.fAd K ("_law_start", none), "_law_start", "_law_start", defArgs (top 47), defBody (top 47), defScope (top 47), [], []⟩
def d__law_ten : He5.DefA := ⟨fun K => He.fAd K ("_law_ten", none), "_law_ten", "_law_ten", defArgs (top 52), defBody (top 52), defScope (top 52), [], []⟩
def d__law_draw : He5.DefA := ⟨fun K => He.fAd K ("_law_draw", none), "_law_draw", "_law_draw", defArgs (top 48), defBody (top 48), defScope (top 48), [], []⟩
def d__law_same : He5.DefA := ⟨fun K => He.fAd K ("_law_same", none), "_law_same", "_law_same", defArgs (top 49), defBody (top 49), defScope (top 49), [], []⟩
def d_repeated_name : He5.DefA := ⟨fun K => He.fAd K ("repeated_name", none), "repeated_name", "repeated_name", defArgs (top 36), defBody (top 36), defScope (top 36), [], []⟩
def d_Lot___init__ : He5.DefA := ⟨fun K => He.fAd K ("Lot", some "__init__"), "__init__", "Lot.__init__", defArgs (inCls (top 37) 1), defBody (inCls (top 37) 1), defScope (inCls (top 37) 1), [], []⟩
def d_lot_of : He5.DefA := ⟨fun K => He.fAd K ("lot_of", none), "lot_of", "lot_of", defArgs (top 38), defBody (top 38), defScope (top 38), [], []⟩
def d_letter_number : He5.DefA := ⟨fun K => He.fAd K ("letter_number", none), "letter_number", "letter_number", defArgs (top 20), defBody (top 20), defScope (top 20), [], []⟩
def d_is_mark : He5.DefA := ⟨fun K => He.fAd K ("is_mark", none), "is_mark", "is_mark", defArgs (top 15), defBody (top 15), defScope (top 15), [], []⟩
def d_is_place : He5.DefA := ⟨fun K => He.fAd K ("is_place", none), "is_place", "is_place", defArgs (top 16), defBody (top 16), defScope (top 16), [], []⟩
def d_is_atom : He5.DefA := ⟨fun K => He.fAd K ("is_atom", none), "is_atom", "is_atom", defArgs (top 17), defBody (top 17), defScope (top 17), [], []⟩
def d_parse_atom : He5.DefA := ⟨fun K => He.fAd K ("parse_atom", none), "parse_atom", "parse_atom", defArgs (top 21), defBody (top 21), defScope (top 21), [], []⟩
def d_promise_parts : He5.DefA := ⟨fun K => He.fAd K ("promise_parts", none), "promise_parts", "promise_parts", defArgs (top 30), defBody (top 30), defScope (top 30), [], []⟩
def d_is_name : He5.DefA := ⟨fun K => He.fAd K ("is_name", none), "is_name", "is_name", defArgs (top 27), defBody (top 27), defScope (top 27), [], []⟩
def d_places_of : He5.DefA := ⟨fun K => He.fAd K ("places_of", none), "places_of", "places_of", defArgs (top 18), defBody (top 18), defScope (top 18), [], []⟩
def d_size_of : He5.DefA := ⟨fun K => He.fAd K ("size_of", none), "size_of", "size_of", defArgs (top 28), defBody (top 28), defScope (top 28), [], []⟩
def d_Promise___init__ : He5.DefA := ⟨fun K => He.fAd K ("Promise", some "__init__"), "__init__", "Promise.__init__", defArgs (inCls (top 29) 0), defBody (inCls (top 29) 0), defScope (inCls (top 29) 0), [], []⟩
def d_Promise_read : He5.DefA := ⟨fun K => He5.wf K (He.ga K "Promise") "classmethod" "read", "read", "Promise.read", defArgs (inCls (top 29) 5), defBody (inCls (top 29) 5), defScope (inCls (top 29) 5), [], []⟩
def d_known : He5.DefA := ⟨fun K => He.fAd K ("known", none), "known", "known", defArgs (top 34), defBody (top 34), defScope (top 34), [], []⟩
def d_check_rules : He5.DefA := ⟨fun K => He.fAd K ("check_rules", none), "check_rules", "check_rules", defArgs (top 42), defBody (top 42), defScope (top 42), [], []⟩
def d_in_order : He5.DefA := ⟨fun K => He.fAd K ("in_order", none), "in_order", "in_order", defArgs (top 43), defBody (top 43), defScope (top 43), [], []⟩
def d_rule_lot : He5.DefA := ⟨fun K => He.fAd K ("rule_lot", none), "rule_lot", "rule_lot", defArgs (top 45), defBody (top 45), defScope (top 45), [], []⟩
def d__law_rule_lot : He5.DefA := ⟨fun K => He.fAd K ("_law_rule_lot", none), "_law_rule_lot", "_law_rule_lot", defArgs (top 53), defBody (top 53), defScope (top 53), [], []⟩
def d__law_parts : He5.DefA := ⟨fun K => He.fAd K ("_law_parts", none), "_law_parts", "_law_parts", defArgs (top 54), defBody (top 54), defScope (top 54), [], []⟩
def d__law_lot_told : He5.DefA := ⟨fun K => He.fAd K ("_law_lot_told", none), "_law_lot_told", "_law_lot_told", defArgs (top 55), defBody (top 55), defScope (top 55), [], []⟩
def d__law_known : He5.DefA := ⟨fun K => He.fAd K ("_law_known", none), "_law_known", "_law_known", defArgs (top 50), defBody (top 50), defScope (top 50), [], []⟩
def d__law_shape_of : He5.DefA := ⟨fun K => He.fAd K ("_law_shape_of", none), "_law_shape_of", "_law_shape_of", defArgs (top 51), defBody (top 51), defScope (top 51), [], []⟩
def d__law_parts_due : He5.DefA := ⟨fun K => He.fAd K ("_law_parts_due", none), "_law_parts_due", "_law_parts_due", defArgs (top 57), defBody (top 57), defScope (top 57), [], []⟩
def d__law_lot_due : He5.DefA := ⟨fun K => He.fAd K ("_law_lot_due", none), "_law_lot_due", "_law_lot_due", defArgs (top 58), defBody (top 58), defScope (top 58), [], []⟩
def d_rule_promise : He5.DefA := ⟨fun K => He.fAd K ("rule_promise", none), "rule_promise", "rule_promise", defArgs (top 44), defBody (top 44), defScope (top 44), [], []⟩
def d__law_promise_told : He5.DefA := ⟨fun K => He.fAd K ("_law_promise_told", none), "_law_promise_told", "_law_promise_told", defArgs (top 56), defBody (top 56), defScope (top 56), [], []⟩
def d_law : He5.DefA := ⟨fun K => He.fAd K ("law", none), "law", "law", defArgs (top 59), defBody (top 59), defScope (top 59), [], []⟩
def d_Lot___iter__ : He5.DefA := ⟨fun K => He.fAd K ("Lot", some "__iter__"), "__iter__", "Lot.__iter__", defArgs (inCls (top 37) 2), defBody (inCls (top 37) 2), defScope (inCls (top 37) 2), [], []⟩
def d_OutOfBounds___init__ : He5.DefA := ⟨fun K => He.fAd K ("OutOfBounds", some "__init__"), "__init__", "OutOfBounds.__init__", defArgs (inCls (top 3) 0), defBody (inCls (top 3) 0), defScope (inCls (top 3) 0), [], []⟩
def d_DuplicateName___init__ : He5.DefA := ⟨fun K => He.fAd K ("DuplicateName", some "__init__"), "__init__", "DuplicateName.__init__", defArgs (inCls (top 7) 0), defBody (inCls (top 7) 0), defScope (inCls (top 7) 0), [], []⟩
def d_InvalidText___init__ : He5.DefA := ⟨fun K => He.fAd K ("InvalidText", some "__init__"), "__init__", "InvalidText.__init__", defArgs (inCls (top 6) 0), defBody (inCls (top 6) 0), defScope (inCls (top 6) 0), [], []⟩
def d_UnknownName___init__ : He5.DefA := ⟨fun K => He.fAd K ("UnknownName", some "__init__"), "__init__", "UnknownName.__init__", defArgs (inCls (top 4) 0), defBody (inCls (top 4) 0), defScope (inCls (top 4) 0), [], []⟩
def fn : List He5.DefA := [d__law_start, d__law_ten, d__law_draw, d__law_same, d_repeated_name, d_Lot___init__, d_lot_of, d_letter_number, d_is_mark, d_is_place, d_is_atom, d_parse_atom, d_promise_parts, d_is_name, d_places_of, d_size_of, d_Promise___init__, d_Promise_read, d_known, d_check_rules, d_in_order, d_rule_lot, d__law_rule_lot, d__law_parts, d__law_lot_told, d__law_known, d__law_shape_of, d__law_parts_due, d__law_lot_due, d_rule_promise, d__law_promise_told, d_law, d_Lot___iter__, d_OutOfBounds___init__, d_DuplicateName___init__, d_InvalidText___init__, d_UnknownName___init__]
def tbs : List (Str × List Str) := [("LINES", ["own", "onward", "inorder", "behind", "through", "queue", "carry", "link", "clock", "steady", "prefix", "real", "serial", "writes", "history", "session", "ownitem", "itemorder"])]
def fileN : Str := "/claim/cut.py"
def fx0 : List Fx := [.isi tbl objs, .fa (.free "list"), .fa (.free "len"), .fa (.free "int"), .fa (.free "bool"), .fa (.free "isinstance"), .fa (.free "str"), .fa (.free "tuple"), .fa (.free "range"), .fa (.glo "_law_same"), .fa (.cls "Promise"), .fa (.noat "Promise" "name"), .pr (cvB 108 "LIMIT" 12), .fa (.glo "Lot"), .pr (supB 7 36 fileN), .fa (.free "super"), .fa (.glo "OutOfBounds"), .fa (.glo "repeated_name"), .pr (supB 13 37 fileN), .fa (.glo "DuplicateName"), .fa (.cls "Lot"), .fa (.noat "Lot" "_promises"), .fa (.mkr "Lot"), .fa (.keep "Lot"), .fa (.str "LETTERS" "abcd"), .fa (.str "CAPITALS" "ABCDEFGHIJKLMNOPQRSTUVWXYZ"), .pr (conB "NEVER" (.tup [.str "never"])), .fa (.glo "NEVER"), .fa (.glo "is_mark"), .fa (.glo "is_place")]
def fx1 : List Fx := [.pr (conB "RELATIONS" (.tup [.str "bf", .str "so", .str "vis", .str "ar", .str "ss", .str "si"])), .fa (.glo "RELATIONS"), .fa (.glo "letter_number"), .pr (supB 12 40 fileN), .fa (.glo "InvalidText"), .fa (.glo "is_atom"), .fa (.glo "parse_atom"), .fa (.int "MOST_NAME" (12)), .fa (.str "SMALL_LETTERS" "abcdefghijklmnopqrstuvwxyz"), .fa (.free "all"), .fa (.int "MOST_ATOMS" (8)), .fa (.exc "InvalidPromise"), .fa (.glo "InvalidPromise"), .fa (.int "MOST_EVENTS" (4)), .fa (.glo "places_of"), .fa (.free "max"), .fa (.glo "is_name"), .fa (.glo "size_of"), .fa (.noat "Promise" "body"), .fa (.noat "Promise" "head"), .fa (.noat "Promise" "size"), .fa (.glo "promise_parts"), .fa (.mkr "Promise"), .fa (.keep "Promise"), .exms 11 rtb_InvalidPromise, .pr (conB "KNOWN" (.tup [.str "own", .str "onward", .str "inorder", .str "behind", .str "through", .str "queue", .str "carry", .str "link", .str "clock", .str "steady", .str "prefix", .str "real", .str "serial", .str "writes", .str "history", .str "session", .str "ownitem", .str "itemorder"])), .fa (.glo "KNOWN"), .pr (supB 8 37 fileN), .fa (.glo "UnknownName"), .fa (.glo "Promise")]
def fx2 : List Fx := [.pr (dctB "LINES" dct_LINES), .fa (.glo "LINES"), .pr (cmB 99 "read"), .pr (conB "RULES" (.tup [.str "own", .str "onward", .str "queue", .str "carry", .str "link", .str "clock", .str "steady", .str "prefix", .str "real", .str "serial"])), .fa (.glo "RULES"), .fa (.glo "check_rules"), .fa (.glo "in_order"), .fa (.glo "known"), .fa (.glo "lot_of"), .fa (.glo "rule_lot"), .fa (.glo "_law_rule_lot"), .fa (.glo "PromiseError"), .fa (.free "ValueError"), .exms 8 rtb_UnknownName, .fa (.glo "_law_parts"), .fa (.glo "_law_known"), .fa (.glo "_law_shape_of"), .fa (.glo "_law_ten"), .fa (.glo "_law_parts_due"), .fa (.glo "rule_promise"), .fa (.glo "_law_start"), .fa (.glo "_law_draw"), .fa (.glo "_law_lot_told"), .fa (.glo "_law_lot_due"), .fa (.glo "_law_promise_told"), .fa (.free "iter"), .fa (.meth "Lot" "__iter__"), .exC 7, .exC 13, .exC 12]
def fx3 : List Fx := [.exC 11, .exC 8, .fa (.glo "law")]
def fx : List Fx := fx0 ++ fx1 ++ fx2 ++ fx3
theorem pgf : PgF Pg fileN := ⟨by kernel_rfl, by kernel_rfl⟩
section
variable {w : World} {K : PySem.W.Frag} {px : Addr → Value → Option Addr → Prop} {mg : Str → Option Value} {base : Heap}
theorem allx (T : Tx fx fn (ev K px) mg) : ∀ c ∈ raised, ExcC K ((ev K px).ga c) := all5 (T.exC 87) (T.exC 88) (T.exC 89) (T.exC 90) (T.exC 91)
theorem ext_OutOfBounds {K : PySem.W.Frag} : ExT d_OutOfBounds___init__ (nm 36) (d_OutOfBounds___init__.at_ K) := ⟨⟨"limit", "the limit is exceeded", _, _, _, _, _, _, _, _, _, _, _, _, _, rfl, rfl, ⟨rfl, rfl, rfl, by decide +kernel⟩, ⟨rfl, rfl, rfl, rfl⟩, ⟨rfl, rfl, by decide, by decide⟩, ⟨_, fun _ => rfl⟩, fun _ _ _ _ _ _ _ _ _ => ⟨rfl, rfl, rfl⟩, fun _ _ _ _ _ _ _ us hl => match us, hl with | [_, _], _ => rfl⟩⟩
theorem sup_OutOfBounds (T : Tx fx fn (ev K px) mg) : SupF Pg (ev K px).K mg ((ev K px).ga 7) (d_OutOfBounds___init__.at_ K) ((ev K px).nm 36) ∧ XfC (ev K px).K ((ev K px).ga 7) := supB_ok (T.pr 14) pgf (T.free 15) rfl rfl (T.c.defC 33 (d := d_OutOfBounds___init__)) ext_OutOfBounds
theorem ext_DuplicateName {K : PySem.W.Frag} : ExT d_DuplicateName___init__ (nm 37) (d_DuplicateName___init__.at_ K) := ⟨⟨"name", "duplicate name", _, _, _, _, _, _, _, _, _, _, _, _, _, rfl, rfl, ⟨rfl, rfl, rfl, by decide +kernel⟩, ⟨rfl, rfl, rfl, rfl⟩, ⟨rfl, rfl, by decide, by decide⟩, ⟨_, fun _ => rfl⟩, fun _ _ _ _ _ _ _ _ _ => ⟨rfl, rfl, rfl⟩, fun _ _ _ _ _ _ _ us hl => match us, hl with | [_, _], _ => rfl⟩⟩
theorem sup_DuplicateName (T : Tx fx fn (ev K px) mg) : SupF Pg (ev K px).K mg ((ev K px).ga 13) (d_DuplicateName___init__.at_ K) ((ev K px).nm 37) ∧ XfC (ev K px).K ((ev K px).ga 13) := supB_ok (T.pr 18) pgf (T.free 15) rfl rfl (T.c.defC 34 (d := d_DuplicateName___init__)) ext_DuplicateName
theorem ext_InvalidText {K : PySem.W.Frag} : ExT d_InvalidText___init__ (nm 40) (d_InvalidText___init__.at_ K) := ⟨⟨"line", "invalid line", _, _, _, _, _, _, _, _, _, _, _, _, _, rfl, rfl, ⟨rfl, rfl, rfl, by decide +kernel⟩, ⟨rfl, rfl, rfl, rfl⟩, ⟨rfl, rfl, by decide, by decide⟩, ⟨_, fun _ => rfl⟩, fun _ _ _ _ _ _ _ _ _ => ⟨rfl, rfl, rfl⟩, fun _ _ _ _ _ _ _ us hl => match us, hl with | [_, _], _ => rfl⟩⟩
theorem sup_InvalidText (T : Tx fx fn (ev K px) mg) : SupF Pg (ev K px).K mg ((ev K px).ga 12) (d_InvalidText___init__.at_ K) ((ev K px).nm 40) ∧ XfC (ev K px).K ((ev K px).ga 12) := supB_ok (T.pr 33) pgf (T.free 15) rfl rfl (T.c.defC 35 (d := d_InvalidText___init__)) ext_InvalidText
theorem ext_UnknownName {K : PySem.W.Frag} : ExT d_UnknownName___init__ (nm 37) (d_UnknownName___init__.at_ K) := ⟨⟨"name", "unknown name", _, _, _, _, _, _, _, _, _, _, _, _, _, rfl, rfl, ⟨rfl, rfl, rfl, by decide +kernel⟩, ⟨rfl, rfl, rfl, rfl⟩, ⟨rfl, rfl, by decide, by decide⟩, ⟨_, fun _ => rfl⟩, fun _ _ _ _ _ _ _ _ _ => ⟨rfl, rfl, rfl⟩, fun _ _ _ _ _ _ _ us hl => match us, hl with | [_, _], _ => rfl⟩⟩
theorem sup_UnknownName (T : Tx fx fn (ev K px) mg) : SupF Pg (ev K px).K mg ((ev K px).ga 8) (d_UnknownName___init__.at_ K) ((ev K px).nm 37) ∧ XfC (ev K px).K ((ev K px).ga 8) := supB_ok (T.pr 57) pgf (T.free 15) rfl rfl (T.c.defC 36 (d := d_UnknownName___init__)) ext_UnknownName
theorem itf_Lot (T : Tx fx fn (ev K px) mg) : ItF Pg w (ev K px) mg base 108 107 (d_Lot___iter__.at_ K) := by
  obtain ⟨fd, F⟩ := T.c.def_ 32 (d := d_Lot___iter__)
  exact ⟨T.cls 20, T.noat 21, T.meth 86, _, _, _, fd, _, _, _, _, _, F, ⟨rfl, rfl, rfl, by decide +kernel, rfl, by decide +kernel, by decide +kernel⟩, FunD.bindsN (ps := ["self"]) F (fun _ _ _ _ _ _ us hl => match us, hl with | [_], _ => rfl), T.free 85, fun _ _ _ _ _ _ _ => ⟨rfl, (by first | exact Or.inl rfl | exact Or.inr (Or.inl rfl) | exact Or.inr (Or.inr rfl)), rfl, rfl, rfl⟩⟩
theorem sc__law_start : FnScope ["script"] ["script"] (defScope (top 47)) := ⟨rfl, rfl, rfl, by decide +kernel, rfl, by decide +kernel, by decide +kernel⟩
theorem kp__law_start (T : Tx fx fn (ev K px) mg) : PySem.W.keepIn K (.ref (d__law_start.at_ K)) = true := by
  obtain ⟨fd, F⟩ := T.c.def_ 0 (d := d__law_start)
  exact F.kp
theorem ok__law_start (T : Tx fx fn (ev K px) mg) {fd : FuncData} (F : FunD K d__law_start.name d__law_start.qual d__law_start.params d__law_start.body d__law_start.scope (d__law_start.dvs K) (d__law_start.kws K) (d__law_start.at_ K) fd) : FnOk Pg w K mg base (L2.CX Pg w) 1 (d__law_start.at_ K) fd ["script"] (spD (ev K px) 1 m__law_start) :=
  ok_def (fb := b__law_start) (e := ev K px) F sc__law_start rfl fun cdv A outer s H E hr B =>
    ds_one (ds_ret (de_lst (da_cons (de_callTy (bList B.hK) rfl (T.free 1) (by decide +kernel) (da_cons (dv 0) (da_nil))) (da_cons (de_int) (da_cons (de_int) (da_cons (de_int) (da_cons (de_int) (da_cons (de_bl) (da_nil)))))))))
theorem q__law_start (T : Tx fx fn (ev K px) mg) : Q_ Pg w (ev K px) mg base 1 (d__law_start.at_ K) ["script"] 1 m__law_start := by
  obtain ⟨fd, F⟩ := T.c.def_ 0 (d := d__law_start)
  exact q_mk F rfl (ok__law_start T F) (fun _ _ _ _ _ _ us hl => match us, hl with | [_], _ => rfl)
theorem sc__law_ten : FnScope [] [] (defScope (top 52)) := ⟨rfl, rfl, rfl, by decide +kernel, rfl, by decide +kernel, by decide +kernel⟩
theorem kp__law_ten (T : Tx fx fn (ev K px) mg) : PySem.W.keepIn K (.ref (d__law_ten.at_ K)) = true := by
  obtain ⟨fd, F⟩ := T.c.def_ 1 (d := d__law_ten)
  exact F.kp
theorem ok__law_ten (T : Tx fx fn (ev K px) mg) {fd : FuncData} (F : FunD K d__law_ten.name d__law_ten.qual d__law_ten.params d__law_ten.body d__law_ten.scope (d__law_ten.dvs K) (d__law_ten.kws K) (d__law_ten.at_ K) fd) : FnOk Pg w K mg base (L2.CX Pg w) 1 (d__law_ten.at_ K) fd [] (spD (ev K px) 0 m__law_ten) :=
  ok_def (fb := b__law_ten) (e := ev K px) F sc__law_ten rfl fun cdv A outer s H E hr B =>
    ds_one (ds_ret (de_lst (da_cons (de_str) (da_cons (de_str) (da_cons (de_str) (da_cons (de_str) (da_cons (de_str) (da_cons (de_str) (da_cons (de_str) (da_cons (de_str) (da_cons (de_str) (da_cons (de_str) (da_nil)))))))))))))
theorem q__law_ten (T : Tx fx fn (ev K px) mg) : Q_ Pg w (ev K px) mg base 1 (d__law_ten.at_ K) [] 0 m__law_ten := by
  obtain ⟨fd, F⟩ := T.c.def_ 1 (d := d__law_ten)
  exact q_mk F rfl (ok__law_ten T F) (fun _ _ _ _ _ _ us hl => match us, hl with | [], _ => rfl)
theorem sc__law_draw : FnScope ["draws", "limit", "value", "step", "mixed"] ["draws", "limit"] (defScope (top 48)) := ⟨rfl, rfl, rfl, by decide +kernel, rfl, by decide +kernel, by decide +kernel⟩
theorem kp__law_draw (T : Tx fx fn (ev K px) mg) : PySem.W.keepIn K (.ref (d__law_draw.at_ K)) = true := by
  obtain ⟨fd, F⟩ := T.c.def_ 2 (d := d__law_draw)
  exact F.kp
theorem ok__law_draw (T : Tx fx fn (ev K px) mg) {fd : FuncData} (F : FunD K d__law_draw.name d__law_draw.qual d__law_draw.params d__law_draw.body d__law_draw.scope (d__law_draw.dvs K) (d__law_draw.kws K) (d__law_draw.at_ K) fd) : FnOk Pg w K mg base (L2.CX Pg w) 1 (d__law_draw.at_ K) fd ["draws", "limit"] (spD (ev K px) 2 m__law_draw) :=
  ok_def (fb := b__law_draw) (e := ev K px) F sc__law_draw rfl fun cdv A outer s H E hr B =>
    ds_seq (ds_if (PW.pt (dw_and (dt_cmp (oEq B.hK B.hu) (de_ix (xIx B.hK) (dv 0) (de_int)) (de_int) (nomark _)) (dw_and1 (dt_cmp (oLt B.hK B.hu) (de_ix (xIx B.hK) (dv 0) (de_int)) (de_callB (bLen B.hK) rfl (T.free 2) (by decide +kernel) (da_cons (de_ix (xIx B.hK) (dv 0) (de_int)) (da_nil))) (nomark _))))) (ds_seq (ds_setix (i := 0) rfl (by first | exact Or.inl rfl | exact Or.inr (Or.inl rfl) | exact Or.inr (Or.inr rfl)) (de_callTy (bInt) rfl (T.free 3) (by decide +kernel) (da_cons (de_ix (xIx B.hK) (de_ix (xIx B.hK) (dv 0) (de_int)) (de_ix (xIx B.hK) (dv 0) (de_int))) (da_nil))) (de_int))
    (ds_seq (ds_setix (i := 0) rfl (by first | exact Or.inl rfl | exact Or.inr (Or.inl rfl) | exact Or.inr (Or.inr rfl)) (de_bin (oAdd B.hK) (de_ix (xIx B.hK) (dv 0) (de_int)) (de_int)) (de_int))
    (ds_seq (ds_setix (i := 0) rfl (by first | exact Or.inl rfl | exact Or.inr (Or.inl rfl) | exact Or.inr (Or.inr rfl)) (de_int) (de_int))
    (ds_seq (ds_setix (i := 0) rfl (by first | exact Or.inl rfl | exact Or.inr (Or.inl rfl) | exact Or.inr (Or.inr rfl)) (de_int) (de_int))
    (ds_seq (ds_setix (i := 0) rfl (by first | exact Or.inl rfl | exact Or.inr (Or.inl rfl) | exact Or.inr (Or.inr rfl)) (de_cmp (oGe) (de_ix (xIx B.hK) (dv 0) (de_int)) (de_bin (oPow) (de_int) (de_int)) (nomark _)) (de_int))
    (ds_one (ds_if (dt_tru B.hK (de_ix (xIx B.hK) (dv 0) (de_int))) (ds_one (ds_setix (i := 0) rfl (by first | exact Or.inl rfl | exact Or.inr (Or.inl rfl) | exact Or.inr (Or.inr rfl)) (de_int) (de_int))) (ds_nil)))))))) (ds_nil))
    (ds_seq (ds_if (PW.pt (dw_or (dt_cmp (oEq B.hK B.hu) (de_ix (xIx B.hK) (dv 0) (de_int)) (de_int) (nomark _)) (dw_or1 (dt_cmp (oLt B.hK B.hu) (dv 1) (de_int) (nomark _))))) (ds_one (ds_ret (de_int))) (ds_nil))
    (ds_seq (ds_setix (i := 0) rfl (by first | exact Or.inl rfl | exact Or.inr (Or.inl rfl) | exact Or.inr (Or.inr rfl)) (de_bin (oSub) (de_ix (xIx B.hK) (dv 0) (de_int)) (de_int)) (de_int))
    (ds_seq (ds_setix (i := 0) rfl (by first | exact Or.inl rfl | exact Or.inr (Or.inl rfl) | exact Or.inr (Or.inr rfl)) (de_bin (oAdd B.hK) (de_ix (xIx B.hK) (dv 0) (de_int)) (de_int)) (de_int))
    (ds_seq (ds_if (dt_tru B.hK (de_ix (xIx B.hK) (dv 0) (de_int))) (ds_seq (ds_set (i := 2) sc__law_draw.nd rfl (by first | exact Or.inl rfl | exact Or.inr rfl) (de_bin (oMod) (de_callTy (bInt) rfl (T.free 3) (by decide +kernel) (da_cons (de_ix (xIx B.hK) (dv 0) (de_int)) (da_nil))) (dv 1)))
    (ds_seq (ds_setix (i := 0) rfl (by first | exact Or.inl rfl | exact Or.inr (Or.inl rfl) | exact Or.inr (Or.inr rfl)) (de_bin (oFdiv) (de_callTy (bInt) rfl (T.free 3) (by decide +kernel) (da_cons (de_ix (xIx B.hK) (dv 0) (de_int)) (da_nil))) (dv 1)) (de_int))
    (ds_seq (ds_if (dt_cmp (oEq B.hK B.hu) (de_ix (xIx B.hK) (dv 0) (de_int)) (de_int) (nomark _)) (ds_one (ds_setix (i := 0) rfl (by first | exact Or.inl rfl | exact Or.inr (Or.inl rfl) | exact Or.inr (Or.inr rfl)) (de_int) (de_int))) (ds_nil))
    (ds_one (ds_ret (dv 2)))))) (ds_nil))
    (ds_seq (ds_set (i := 3) sc__law_draw.nd rfl (by first | exact Or.inl rfl | exact Or.inr rfl) (de_ix (xIx B.hK) (dv 0) (de_int)))
    (ds_seq (ds_set (i := 4) sc__law_draw.nd rfl (by first | exact Or.inl rfl | exact Or.inr rfl) (de_bin (oMod) (de_callTy (bInt) rfl (T.free 3) (by decide +kernel) (da_cons (de_bin (oMul) (de_ix (xIx B.hK) (dv 0) (de_int)) (de_int)) (da_nil))) (de_int)))
    (ds_seq (ds_set (i := 4) sc__law_draw.nd rfl (by first | exact Or.inl rfl | exact Or.inr rfl) (de_bin (oMod) (de_callTy (bInt) rfl (T.free 3) (by decide +kernel) (da_cons (de_bin (oMul) (dv 4) (de_bin (oAdd B.hK) (de_bin (oAdd B.hK) (de_bin (oMul) (de_bin (oMul) (de_int) (dv 3)) (dv 3)) (de_bin (oMul) (de_int) (dv 3))) (de_int))) (da_nil))) (de_int)))
    (ds_one (ds_ret (de_bin (oMod) (de_callTy (bInt) rfl (T.free 3) (by decide +kernel) (da_cons (dv 4) (da_nil))) (dv 1)))))))))))
theorem q__law_draw (T : Tx fx fn (ev K px) mg) : Q_ Pg w (ev K px) mg base 1 (d__law_draw.at_ K) ["draws", "limit"] 2 m__law_draw := by
  obtain ⟨fd, F⟩ := T.c.def_ 2 (d := d__law_draw)
  exact q_mk F rfl (ok__law_draw T F) (fun _ _ _ _ _ _ us hl => match us, hl with | [_, _], _ => rfl)
theorem sc__law_same : FnScope ["actual", "expected", "k"] ["actual", "expected"] (defScope (top 49)) := ⟨rfl, rfl, rfl, by decide +kernel, rfl, by decide +kernel, by decide +kernel⟩
theorem kp__law_same (T : Tx fx fn (ev K px) mg) : PySem.W.keepIn K (.ref (d__law_same.at_ K)) = true := by
  obtain ⟨fd, F⟩ := T.c.def_ 3 (d := d__law_same)
  exact F.kp
theorem q__law_same (T : Tx fx fn (ev K px) mg) : ∀ n : Nat, Q_ Pg w (ev K px) mg base (n + 0) (d__law_same.at_ K) ["actual", "expected"] 2 (m__law_same n)
  | 0 => by
    obtain ⟨fd, F⟩ := T.c.def_ 3 (d := d__law_same)
    exact (q_zero F rfl (fun _ _ _ _ _ _ us hl => match us, hl with | [_, _], _ => rfl)).mono (Nat.zero_le _)
  | n + 1 => by
    have q := q__law_same T n
    obtain ⟨fd, F⟩ := T.c.def_ 3 (d := d__law_same)
    exact q_mk F rfl (ok_def (fb := b__law_same (m__law_same n)) F sc__law_same rfl fun cdv A outer s H E hr B =>
    ds_seq (ds_if (dt_cmp (oIs) (dv 1) (de_non) (nomark _)) (ds_one (ds_ret (de_cmp (oIs) (dv 0) (de_non) (nomark _)))) (ds_nil))
    (ds_seq (ds_if (dt_tru B.hK (de_callB (bIsi B.hK (T.isi 0)) rfl (T.free 5) (by decide +kernel) (da_cons (dv 1) (da_cons (de_gty (T.free 4)) (da_nil))))) (ds_one (ds_ret (de_and (de_callB (bIsi B.hK (T.isi 0)) rfl (T.free 5) (by decide +kernel) (da_cons (dv 0) (da_cons (de_gty (T.free 4)) (da_nil)))) (de_one (de_cmp (oEq B.hK B.hu) (dv 0) (dv 1) (nomark _)))))) (ds_nil))
    (ds_seq (ds_if (dt_tru B.hK (de_callB (bIsi B.hK (T.isi 0)) rfl (T.free 5) (by decide +kernel) (da_cons (dv 1) (da_cons (de_gty (T.free 3)) (da_nil))))) (ds_one (ds_ret (de_and (de_callB (bIsi B.hK (T.isi 0)) rfl (T.free 5) (by decide +kernel) (da_cons (dv 0) (da_cons (de_gty (T.free 3)) (da_nil)))) (de_and (de_not (de_callB (bIsi B.hK (T.isi 0)) rfl (T.free 5) (by decide +kernel) (da_cons (dv 0) (da_cons (de_gty (T.free 4)) (da_nil))))) (de_one (de_cmp (oEq B.hK B.hu) (dv 0) (dv 1) (nomark _))))))) (ds_nil))
    (ds_seq (ds_if (dt_tru B.hK (de_callB (bIsi B.hK (T.isi 0)) rfl (T.free 5) (by decide +kernel) (da_cons (dv 1) (da_cons (de_gty (T.free 6)) (da_nil))))) (ds_one (ds_ret (de_and (de_callB (bIsi B.hK (T.isi 0)) rfl (T.free 5) (by decide +kernel) (da_cons (dv 0) (da_cons (de_gty (T.free 6)) (da_nil)))) (de_one (de_cmp (oEq B.hK B.hu) (dv 0) (dv 1) (nomark _)))))) (ds_nil))
    (ds_seq (ds_if (dt_tru B.hK (de_callB (bIsi B.hK (T.isi 0)) rfl (T.free 5) (by decide +kernel) (da_cons (dv 1) (da_cons (de_gty (T.free 1)) (da_nil))))) (ds_one (ds_if (dt_not (dt_tru B.hK (de_callB (bIsi B.hK (T.isi 0)) rfl (T.free 5) (by decide +kernel) (da_cons (dv 0) (da_cons (de_gty (T.free 1)) (da_nil)))))) (ds_one (ds_ret (de_bl))) (ds_nil))) (ds_one (ds_if (dt_not (dt_tru B.hK (de_callB (bIsi B.hK (T.isi 0)) rfl (T.free 5) (by decide +kernel) (da_cons (dv 0) (da_cons (de_gty (T.free 7)) (da_nil)))))) (ds_one (ds_ret (de_bl))) (ds_nil))))
    (ds_seq (ds_if (dt_cmp (oNe B.hK B.hu) (de_callB (bLen B.hK) rfl (T.free 2) (by decide +kernel) (da_cons (dv 0) (da_nil))) (de_callB (bLen B.hK) rfl (T.free 2) (by decide +kernel) (da_cons (dv 1) (da_nil))) (nomark _)) (ds_one (ds_ret (de_bl))) (ds_nil))
    (ds_seq (ds_for B.pass rfl (di_range1 rfl (T.free 8) (da_cons (de_callB (bLen B.hK) rfl (T.free 2) (by decide +kernel) (da_cons (dv 1) (da_nil))) (da_nil))) (dg_name (i := 2) sc__law_same.nd rfl (by first | exact Or.inl rfl | exact Or.inr rfl)) (ds_one (ds_if (dt_not (dt_tru B.hK (de_call (clb B (q) hr) rfl rfl (T.glo 9) (kp__law_same T) (da_cons (de_ix (xIx B.hK) (dv 0) (dv 2)) (da_cons (de_ix (xIx B.hK) (dv 1) (dv 2)) (da_nil)))))) (ds_one (ds_ret (de_bl))) (ds_nil))))
    (ds_one (ds_ret (de_bl)))))))))) (fun _ _ _ _ _ _ us hl => match us, hl with | [_, _], _ => rfl)
theorem sc_repeated_name : FnScope ["promises", "names", "promise"] ["promises"] (defScope (top 36)) := ⟨rfl, rfl, rfl, by decide +kernel, rfl, by decide +kernel, by decide +kernel⟩
theorem kp_repeated_name (T : Tx fx fn (ev K px) mg) : PySem.W.keepIn K (.ref (d_repeated_name.at_ K)) = true := by
  obtain ⟨fd, F⟩ := T.c.def_ 4 (d := d_repeated_name)
  exact F.kp
theorem ok_repeated_name (T : Tx fx fn (ev K px) mg) {fd : FuncData} (F : FunD K d_repeated_name.name d_repeated_name.qual d_repeated_name.params d_repeated_name.body d_repeated_name.scope (d_repeated_name.dvs K) (d_repeated_name.kws K) (d_repeated_name.at_ K) fd) : FnOk Pg w K mg base (L2.CX Pg w) 1 (d_repeated_name.at_ K) fd ["promises"] (spD (ev K px) 1 m_repeated_name) :=
  ok_def (fb := b_repeated_name) (e := ev K px) F sc_repeated_name rfl fun cdv A outer s H E hr B =>
    ds_seq (ds_set (i := 1) sc_repeated_name.nd rfl (by first | exact Or.inl rfl | exact Or.inr rfl) (de_lst (da_nil)))
    (ds_seq (ds_for B.pass rfl (di_seq B.hK (dv 0)) (dg_name (i := 2) sc_repeated_name.nd rfl (by first | exact Or.inl rfl | exact Or.inr rfl)) (ds_seq (ds_if (dt_cmp (oIn B.hK B.hu) (de_fld B.hK rfl (all1 ⟨T.cls 10, T.noat 11⟩) (dv 2)) (dv 1) rfl) (ds_one (ds_ret (de_fld B.hK rfl (all1 ⟨T.cls 10, T.noat 11⟩) (dv 2)))) (ds_nil))
    (ds_one (ds_expr (de_append (i := 1) B.hK rfl (by first | exact Or.inl rfl | exact Or.inr (Or.inl rfl) | exact Or.inr (Or.inr rfl)) (de_fld B.hK rfl (all1 ⟨T.cls 10, T.noat 11⟩) (dv 2)))))))
    (ds_one (ds_ret (de_non))))
theorem q_repeated_name (T : Tx fx fn (ev K px) mg) : Q_ Pg w (ev K px) mg base 1 (d_repeated_name.at_ K) ["promises"] 1 m_repeated_name := by
  obtain ⟨fd, F⟩ := T.c.def_ 4 (d := d_repeated_name)
  exact q_mk F rfl (ok_repeated_name T F) (fun _ _ _ _ _ _ us hl => match us, hl with | [_], _ => rfl)
theorem sc_Lot___init__ : FnScope ["self", "promises", "name"] ["self", "promises"] (defScope (inCls (top 37) 1)) := ⟨rfl, rfl, rfl, by decide +kernel, rfl, by decide +kernel, by decide +kernel⟩
theorem kp_Lot___init__ (T : Tx fx fn (ev K px) mg) : PySem.W.keepIn K (.ref (d_Lot___init__.at_ K)) = true := by
  obtain ⟨fd, F⟩ := T.c.def_ 5 (d := d_Lot___init__)
  exact F.kp
theorem q_Lot___init__ (T : Tx fx fn (ev K px) mg) : QS_ Pg w (ev K px) mg base 2 (d_Lot___init__.at_ K) 1 m_Lot___init__ := by
  obtain ⟨fd, F⟩ := T.c.def_ 5 (d := d_Lot___init__)
  exact ok_defS (ps := ["self"]) (pv := "promises") (nl := 1) (fb := b_Lot___init__) (e := ev K px) F sc_Lot___init__ rfl (fun _ _ _ _ _ _ us rest hl => match us, rest, hl with | [_], [], _ => rfl | [_], _ :: _, _ => rfl) fun cdv A outer s H E hr B =>
    ds_seq (ds_if (dt_cmp (oGt) (de_callB (bLen B.hK) rfl (T.free 2) (by decide +kernel) (da_cons (dv 1) (da_nil))) (de_cval (c := 108) (T.pr 12) B.hK (de_gref (n := 108) (T.glo 13))) (nomark _)) (ds_one (ds_raise1 (c := 7) B rfl (sup_OutOfBounds T) (hr.mono (j := 1) (by decide)) rfl (T.glo 16) (de_cval (c := 108) (T.pr 12) B.hK (de_gref (n := 108) (T.glo 13))))) (ds_nil))
    (ds_seq (ds_set (i := 2) sc_Lot___init__.nd rfl (by first | exact Or.inl rfl | exact Or.inr rfl) (de_call (clb B (q_repeated_name T) (hr.mono (j := 1) (by decide))) rfl rfl (T.glo 17) (kp_repeated_name T) (da_cons (dv 1) (da_nil))))
    (ds_seq (ds_if (dt_cmp (oIsNot) (dv 2) (de_non) (nomark _)) (ds_one (ds_raise1 (c := 13) B rfl (sup_DuplicateName T) (hr.mono (j := 1) (by decide)) rfl (T.glo 19) (dv 2))) (ds_nil))
    (ds_one (ds_setf (i := 0) B.hK rfl (all1 ⟨T.cls 20, T.noat 21⟩) rfl (by first | exact Or.inl rfl | exact Or.inr (Or.inl rfl) | exact Or.inr (Or.inr rfl)) (de_callTy (bList B.hK) rfl (T.free 1) (by decide +kernel) (da_cons (dv 1) (da_nil)))))))
theorem sc_lot_of : FnScope ["promises"] ["promises"] (defScope (top 38)) := ⟨rfl, rfl, rfl, by decide +kernel, rfl, by decide +kernel, by decide +kernel⟩
theorem kp_lot_of (T : Tx fx fn (ev K px) mg) : PySem.W.keepIn K (.ref (d_lot_of.at_ K)) = true := by
  obtain ⟨fd, F⟩ := T.c.def_ 6 (d := d_lot_of)
  exact F.kp
theorem ok_lot_of (T : Tx fx fn (ev K px) mg) {fd : FuncData} (F : FunD K d_lot_of.name d_lot_of.qual d_lot_of.params d_lot_of.body d_lot_of.scope (d_lot_of.dvs K) (d_lot_of.kws K) (d_lot_of.at_ K) fd) : FnOk Pg w K mg base (L2.CX Pg w) 4 (d_lot_of.at_ K) fd ["promises"] (spD (ev K px) 1 m_lot_of) :=
  ok_def (fb := b_lot_of) (e := ev K px) F sc_lot_of rfl fun cdv A outer s H E hr B =>
    ds_one (ds_ret (de_makeS1 (c := 108) (clbMkS B (T.mkr 22) (q_Lot___init__ T) (hr.mono (by decide))) B.hK rfl (T.glo 13) (T.keep 23) (dv 0)))
theorem q_lot_of (T : Tx fx fn (ev K px) mg) : Q_ Pg w (ev K px) mg base 4 (d_lot_of.at_ K) ["promises"] 1 m_lot_of := by
  obtain ⟨fd, F⟩ := T.c.def_ 6 (d := d_lot_of)
  exact q_mk F rfl (ok_lot_of T F) (fun _ _ _ _ _ _ us hl => match us, hl with | [_], _ => rfl)
theorem sc_letter_number : FnScope ["text"] ["text"] (defScope (top 20)) := ⟨rfl, rfl, rfl, by decide +kernel, rfl, by decide +kernel, by decide +kernel⟩
theorem kp_letter_number (T : Tx fx fn (ev K px) mg) : PySem.W.keepIn K (.ref (d_letter_number.at_ K)) = true := by
  obtain ⟨fd, F⟩ := T.c.def_ 7 (d := d_letter_number)
  exact F.kp
theorem ok_letter_number (T : Tx fx fn (ev K px) mg) {fd : FuncData} (F : FunD K d_letter_number.name d_letter_number.qual d_letter_number.params d_letter_number.body d_letter_number.scope (d_letter_number.dvs K) (d_letter_number.kws K) (d_letter_number.at_ K) fd) : FnOk Pg w K mg base (L2.CX Pg w) 1 (d_letter_number.at_ K) fd ["text"] (spD (ev K px) 1 m_letter_number) :=
  ok_def (fb := b_letter_number) (e := ev K px) F sc_letter_number rfl fun cdv A outer s H E hr B =>
    ds_seq (ds_if (PW.pt (dw_and (dt_cmp (oEq B.hK B.hu) (de_callB (bLen B.hK) rfl (T.free 2) (by decide +kernel) (da_cons (dv 0) (da_nil))) (de_int) (nomark _)) (dw_and1 (dt_cmp (oIn B.hK B.hu) (dv 0) (de_gstr (T.str 24)) rfl)))) (ds_one (ds_ret (de_mb B.hK PySem.F.plainAttrs_str PySem.F.slot_str_find PySem.F.type_str_find (bFind) (de_gstr (T.str 24)) (da_cons (dv 0) (da_nil))))) (ds_nil))
    (ds_one (ds_ret (de_neg (de_int))))
theorem q_letter_number (T : Tx fx fn (ev K px) mg) : Q_ Pg w (ev K px) mg base 1 (d_letter_number.at_ K) ["text"] 1 m_letter_number := by
  obtain ⟨fd, F⟩ := T.c.def_ 7 (d := d_letter_number)
  exact q_mk F rfl (ok_letter_number T F) (fun _ _ _ _ _ _ us hl => match us, hl with | [_], _ => rfl)
theorem sc_is_mark : FnScope ["word"] ["word"] (defScope (top 15)) := ⟨rfl, rfl, rfl, by decide +kernel, rfl, by decide +kernel, by decide +kernel⟩
theorem kp_is_mark (T : Tx fx fn (ev K px) mg) : PySem.W.keepIn K (.ref (d_is_mark.at_ K)) = true := by
  obtain ⟨fd, F⟩ := T.c.def_ 8 (d := d_is_mark)
  exact F.kp
theorem ok_is_mark (T : Tx fx fn (ev K px) mg) {fd : FuncData} (F : FunD K d_is_mark.name d_is_mark.qual d_is_mark.params d_is_mark.body d_is_mark.scope (d_is_mark.dvs K) (d_is_mark.kws K) (d_is_mark.at_ K) fd) : FnOk Pg w K mg base (L2.CX Pg w) 1 (d_is_mark.at_ K) fd ["word"] (spD (ev K px) 1 m_is_mark) :=
  ok_def (fb := b_is_mark) (e := ev K px) F sc_is_mark rfl fun cdv A outer s H E hr B =>
    ds_one (ds_ret (de_and (de_callB (bIsi B.hK (T.isi 0)) rfl (T.free 5) (by decide +kernel) (da_cons (dv 0) (da_cons (de_gty (T.free 6)) (da_nil)))) (de_and (de_cmp (oEq B.hK B.hu) (de_callB (bLen B.hK) rfl (T.free 2) (by decide +kernel) (da_cons (dv 0) (da_nil))) (de_int) (nomark _)) (de_one (de_cmp (oIn B.hK B.hu) (dv 0) (de_gstr (T.str 25)) rfl)))))
theorem q_is_mark (T : Tx fx fn (ev K px) mg) : Q_ Pg w (ev K px) mg base 1 (d_is_mark.at_ K) ["word"] 1 m_is_mark := by
  obtain ⟨fd, F⟩ := T.c.def_ 8 (d := d_is_mark)
  exact q_mk F rfl (ok_is_mark T F) (fun _ _ _ _ _ _ us hl => match us, hl with | [_], _ => rfl)
theorem sc_is_place : FnScope ["value", "size"] ["value", "size"] (defScope (top 16)) := ⟨rfl, rfl, rfl, by decide +kernel, rfl, by decide +kernel, by decide +kernel⟩
theorem kp_is_place (T : Tx fx fn (ev K px) mg) : PySem.W.keepIn K (.ref (d_is_place.at_ K)) = true := by
  obtain ⟨fd, F⟩ := T.c.def_ 9 (d := d_is_place)
  exact F.kp
theorem ok_is_place (T : Tx fx fn (ev K px) mg) {fd : FuncData} (F : FunD K d_is_place.name d_is_place.qual d_is_place.params d_is_place.body d_is_place.scope (d_is_place.dvs K) (d_is_place.kws K) (d_is_place.at_ K) fd) : FnOk Pg w K mg base (L2.CX Pg w) 1 (d_is_place.at_ K) fd ["value", "size"] (spD (ev K px) 2 m_is_place) :=
  ok_def (fb := b_is_place) (e := ev K px) F sc_is_place rfl fun cdv A outer s H E hr B =>
    ds_one (ds_ret (de_and (de_callB (bIsi B.hK (T.isi 0)) rfl (T.free 5) (by decide +kernel) (da_cons (dv 0) (da_cons (de_gty (T.free 3)) (da_nil)))) (de_one (de_chain (oLe B.hK B.hu) (oLt B.hK B.hu) (de_int) (dv 0) (dv 1)))))
theorem q_is_place (T : Tx fx fn (ev K px) mg) : Q_ Pg w (ev K px) mg base 1 (d_is_place.at_ K) ["value", "size"] 2 m_is_place := by
  obtain ⟨fd, F⟩ := T.c.def_ 9 (d := d_is_place)
  exact q_mk F rfl (ok_is_place T F) (fun _ _ _ _ _ _ us hl => match us, hl with | [_, _], _ => rfl)
theorem sc_is_atom : FnScope ["value", "size"] ["value", "size"] (defScope (top 17)) := ⟨rfl, rfl, rfl, by decide +kernel, rfl, by decide +kernel, by decide +kernel⟩
theorem kp_is_atom (T : Tx fx fn (ev K px) mg) : PySem.W.keepIn K (.ref (d_is_atom.at_ K)) = true := by
  obtain ⟨fd, F⟩ := T.c.def_ 10 (d := d_is_atom)
  exact F.kp
theorem ok_is_atom (T : Tx fx fn (ev K px) mg) {fd : FuncData} (F : FunD K d_is_atom.name d_is_atom.qual d_is_atom.params d_is_atom.body d_is_atom.scope (d_is_atom.dvs K) (d_is_atom.kws K) (d_is_atom.at_ K) fd) : FnOk Pg w K mg base (L2.CX Pg w) 2 (d_is_atom.at_ K) fd ["value", "size"] (spD (ev K px) 2 m_is_atom) :=
  ok_def (fb := b_is_atom) (e := ev K px) F sc_is_atom rfl fun cdv A outer s H E hr B =>
    ds_seq (ds_if (dt_not (dt_tru B.hK (de_callB (bIsi B.hK (T.isi 0)) rfl (T.free 5) (by decide +kernel) (da_cons (dv 0) (da_cons (de_gty (T.free 7)) (da_nil)))))) (ds_one (ds_ret (de_bl))) (ds_nil))
    (ds_seq (ds_if (dt_cmp (oEq B.hK B.hu) (dv 0) (de_gcon (T.glo 27) (T.pr 26)) (nomark _)) (ds_one (ds_ret (de_bl))) (ds_nil))
    (ds_seq (ds_if (dt_cmp (oEq B.hK B.hu) (de_callB (bLen B.hK) rfl (T.free 2) (by decide +kernel) (da_cons (dv 0) (da_nil))) (de_int) (nomark _)) (ds_one (ds_ret (de_and (de_call (clb B (q_is_mark T) (hr.mono (j := 1) (by decide))) rfl rfl (T.glo 28) (kp_is_mark T) (da_cons (de_ix (xIx B.hK) (dv 0) (de_int)) (da_nil))) (de_one (de_call (clb B (q_is_place T) (hr.mono (j := 1) (by decide))) rfl rfl (T.glo 29) (kp_is_place T) (da_cons (de_ix (xIx B.hK) (dv 0) (de_int)) (da_cons (dv 1) (da_nil)))))))) (ds_nil))
    (ds_seq (ds_if (PW.pt (dw_or (dt_cmp (oNe B.hK B.hu) (de_callB (bLen B.hK) rfl (T.free 2) (by decide +kernel) (da_cons (dv 0) (da_nil))) (de_int) (nomark _)) (dw_or1 (dt_cmp (oNotIn B.hK B.hu) (de_ix (xIx B.hK) (dv 0) (de_int)) (de_gcon (T.glo 31) (T.pr 30)) rfl)))) (ds_one (ds_ret (de_bl))) (ds_nil))
    (ds_one (ds_ret (de_and (de_call (clb B (q_is_place T) (hr.mono (j := 1) (by decide))) rfl rfl (T.glo 29) (kp_is_place T) (da_cons (de_ix (xIx B.hK) (dv 0) (de_int)) (da_cons (dv 1) (da_nil)))) (de_and (de_call (clb B (q_is_place T) (hr.mono (j := 1) (by decide))) rfl rfl (T.glo 29) (kp_is_place T) (da_cons (de_ix (xIx B.hK) (dv 0) (de_int)) (da_cons (dv 1) (da_nil)))) (de_one (de_cmp (oNe B.hK B.hu) (de_ix (xIx B.hK) (dv 0) (de_int)) (de_ix (xIx B.hK) (dv 0) (de_int)) (nomark _))))))))))
theorem q_is_atom (T : Tx fx fn (ev K px) mg) : Q_ Pg w (ev K px) mg base 2 (d_is_atom.at_ K) ["value", "size"] 2 m_is_atom := by
  obtain ⟨fd, F⟩ := T.c.def_ 10 (d := d_is_atom)
  exact q_mk F rfl (ok_is_atom T F) (fun _ _ _ _ _ _ us hl => match us, hl with | [_, _], _ => rfl)
theorem sc_parse_atom : FnScope ["text", "parts", "value"] ["text"] (defScope (top 21)) := ⟨rfl, rfl, rfl, by decide +kernel, rfl, by decide +kernel, by decide +kernel⟩
theorem kp_parse_atom (T : Tx fx fn (ev K px) mg) : PySem.W.keepIn K (.ref (d_parse_atom.at_ K)) = true := by
  obtain ⟨fd, F⟩ := T.c.def_ 11 (d := d_parse_atom)
  exact F.kp
theorem ok_parse_atom (T : Tx fx fn (ev K px) mg) {fd : FuncData} (F : FunD K d_parse_atom.name d_parse_atom.qual d_parse_atom.params d_parse_atom.body d_parse_atom.scope (d_parse_atom.dvs K) (d_parse_atom.kws K) (d_parse_atom.at_ K) fd) : FnOk Pg w K mg base (L2.CX Pg w) 3 (d_parse_atom.at_ K) fd ["text"] (spD (ev K px) 1 m_parse_atom) :=
  ok_def (fb := b_parse_atom) (e := ev K px) F sc_parse_atom rfl fun cdv A outer s H E hr B =>
    ds_seq (ds_set (i := 1) sc_parse_atom.nd rfl (by first | exact Or.inl rfl | exact Or.inr rfl) (de_mb B.hK PySem.F.plainAttrs_str PySem.F.slot_str_split PySem.F.type_str_split (bSplit) (dv 0) (da_cons (de_str) (da_nil))))
    (ds_seq (ds_set (i := 2) sc_parse_atom.nd rfl (by first | exact Or.inl rfl | exact Or.inr rfl) (de_gcon (T.glo 27) (T.pr 26)))
    (ds_seq (ds_if (dt_cmp (oEq B.hK B.hu) (de_callB (bLen B.hK) rfl (T.free 2) (by decide +kernel) (da_cons (dv 1) (da_nil))) (de_int) (nomark _)) (ds_one (ds_set (i := 2) sc_parse_atom.nd rfl (by first | exact Or.inl rfl | exact Or.inr rfl) (de_tup (da_cons (de_ix (xIx B.hK) (dv 1) (de_int)) (da_cons (de_call (clb B (q_letter_number T) (hr.mono (j := 1) (by decide))) rfl rfl (T.glo 32) (kp_letter_number T) (da_cons (de_ix (xIx B.hK) (dv 1) (de_int)) (da_nil))) (da_nil)))))) (ds_one (ds_if (dt_cmp (oEq B.hK B.hu) (de_callB (bLen B.hK) rfl (T.free 2) (by decide +kernel) (da_cons (dv 1) (da_nil))) (de_int) (nomark _)) (ds_one (ds_set (i := 2) sc_parse_atom.nd rfl (by first | exact Or.inl rfl | exact Or.inr rfl) (de_tup (da_cons (de_ix (xIx B.hK) (dv 1) (de_int)) (da_cons (de_call (clb B (q_letter_number T) (hr.mono (j := 1) (by decide))) rfl rfl (T.glo 32) (kp_letter_number T) (da_cons (de_ix (xIx B.hK) (dv 1) (de_int)) (da_nil))) (da_cons (de_call (clb B (q_letter_number T) (hr.mono (j := 1) (by decide))) rfl rfl (T.glo 32) (kp_letter_number T) (da_cons (de_ix (xIx B.hK) (dv 1) (de_int)) (da_nil))) (da_nil))))))) (ds_one (ds_if (dt_cmp (oNe B.hK B.hu) (dv 0) (de_str) (nomark _)) (ds_one (ds_raise1 (c := 12) B rfl (sup_InvalidText T) (hr.mono (j := 1) (by decide)) rfl (T.glo 34) (de_int))) (ds_nil))))))
    (ds_seq (ds_if (dt_not (dt_tru B.hK (de_call (clb B (q_is_atom T) (hr.mono (j := 2) (by decide))) rfl rfl (T.glo 35) (kp_is_atom T) (da_cons (dv 2) (da_cons (de_callB (bLen B.hK) rfl (T.free 2) (by decide +kernel) (da_cons (de_gstr (T.str 24)) (da_nil))) (da_nil)))))) (ds_one (ds_raise1 (c := 12) B rfl (sup_InvalidText T) (hr.mono (j := 1) (by decide)) rfl (T.glo 34) (de_int))) (ds_nil))
    (ds_one (ds_ret (dv 2))))))
theorem q_parse_atom (T : Tx fx fn (ev K px) mg) : Q_ Pg w (ev K px) mg base 3 (d_parse_atom.at_ K) ["text"] 1 m_parse_atom := by
  obtain ⟨fd, F⟩ := T.c.def_ 11 (d := d_parse_atom)
  exact q_mk F rfl (ok_parse_atom T F) (fun _ _ _ _ _ _ us hl => match us, hl with | [_], _ => rfl)
theorem sc_promise_parts : FnScope ["text", "name", "colon", "rest", "left", "arrow", "right", "body", "part"] ["text"] (defScope (top 30)) := ⟨rfl, rfl, rfl, by decide +kernel, rfl, by decide +kernel, by decide +kernel⟩
theorem kp_promise_parts (T : Tx fx fn (ev K px) mg) : PySem.W.keepIn K (.ref (d_promise_parts.at_ K)) = true := by
  obtain ⟨fd, F⟩ := T.c.def_ 12 (d := d_promise_parts)
  exact F.kp
theorem ok_promise_parts (T : Tx fx fn (ev K px) mg) {fd : FuncData} (F : FunD K d_promise_parts.name d_promise_parts.qual d_promise_parts.params d_promise_parts.body d_promise_parts.scope (d_promise_parts.dvs K) (d_promise_parts.kws K) (d_promise_parts.at_ K) fd) : FnOk Pg w K mg base (L2.CX Pg w) 4 (d_promise_parts.at_ K) fd ["text"] (spD (ev K px) 1 m_promise_parts) :=
  ok_def (fb := b_promise_parts) (e := ev K px) F sc_promise_parts rfl fun cdv A outer s H E hr B =>
    ds_seq (ds_asg (de_mb B.hK PySem.F.plainAttrs_str PySem.F.slot_str_partition PySem.F.type_str_partition (bPartition) (dv 0) (da_cons (de_str) (da_nil))) (dg_tup B.hK rfl (dgs_cons (dg_name (i := 1) sc_promise_parts.nd rfl (by first | exact Or.inl rfl | exact Or.inr rfl)) (dgs_cons (dg_name (i := 2) sc_promise_parts.nd rfl (by first | exact Or.inl rfl | exact Or.inr rfl)) (dgs_cons (dg_name (i := 3) sc_promise_parts.nd rfl (by first | exact Or.inl rfl | exact Or.inr rfl)) (dgs_nil))))))
    (ds_seq (ds_asg (de_mb B.hK PySem.F.plainAttrs_str PySem.F.slot_str_partition PySem.F.type_str_partition (bPartition) (dv 3) (da_cons (de_str) (da_nil))) (dg_tup B.hK rfl (dgs_cons (dg_name (i := 4) sc_promise_parts.nd rfl (by first | exact Or.inl rfl | exact Or.inr rfl)) (dgs_cons (dg_name (i := 5) sc_promise_parts.nd rfl (by first | exact Or.inl rfl | exact Or.inr rfl)) (dgs_cons (dg_name (i := 6) sc_promise_parts.nd rfl (by first | exact Or.inl rfl | exact Or.inr rfl)) (dgs_nil))))))
    (ds_seq (ds_if (PW.pt (dw_or (dt_cmp (oEq B.hK B.hu) (dv 2) (de_str) (nomark _)) (dw_or1 (dt_cmp (oEq B.hK B.hu) (dv 5) (de_str) (nomark _))))) (ds_one (ds_raise1 (c := 12) B rfl (sup_InvalidText T) (hr.mono (j := 1) (by decide)) rfl (T.glo 34) (de_int))) (ds_nil))
    (ds_seq (ds_setLc (i := 7) (own := [("part", 8)]) B rfl sc_promise_parts.nd rfl rfl (di_seq B.hK (de_mb B.hK PySem.F.plainAttrs_str PySem.F.slot_str_split PySem.F.type_str_split (bSplit) (dv 4) (da_cons (de_str) (da_nil)))) (by kernel_rfl) (fun s1 H1 C1 cl1 fp1 B => dgx_name (i := 8) sc_promise_parts.nd rfl (by first | exact Or.inl rfl | exact Or.inr rfl)) (fun s1 H1 C1 cl1 fp1 B => dts_nil) (fun s1 H1 C1 cl1 fp1 B => de_call (clb B (q_parse_atom T) (hr.mono (j := 3) (by decide))) rfl rfl (T.glo 36) (kp_parse_atom T) (da_cons (dv 8) (da_nil))))
    (ds_one (ds_ret (de_tup (da_cons (dv 1) (da_cons (dv 7) (da_cons (de_call (clb B (q_parse_atom T) (hr.mono (j := 3) (by decide))) rfl rfl (T.glo 36) (kp_parse_atom T) (da_cons (dv 6) (da_nil))) (da_nil))))))))))
theorem q_promise_parts (T : Tx fx fn (ev K px) mg) : Q_ Pg w (ev K px) mg base 4 (d_promise_parts.at_ K) ["text"] 1 m_promise_parts := by
  obtain ⟨fd, F⟩ := T.c.def_ 12 (d := d_promise_parts)
  exact q_mk F rfl (ok_promise_parts T F) (fun _ _ _ _ _ _ us hl => match us, hl with | [_], _ => rfl)
theorem sc_is_name : FnScope ["name", "char"] ["name"] (defScope (top 27)) := ⟨rfl, rfl, rfl, by decide +kernel, rfl, by decide +kernel, by decide +kernel⟩
theorem kp_is_name (T : Tx fx fn (ev K px) mg) : PySem.W.keepIn K (.ref (d_is_name.at_ K)) = true := by
  obtain ⟨fd, F⟩ := T.c.def_ 13 (d := d_is_name)
  exact F.kp
theorem ok_is_name (T : Tx fx fn (ev K px) mg) {fd : FuncData} (F : FunD K d_is_name.name d_is_name.qual d_is_name.params d_is_name.body d_is_name.scope (d_is_name.dvs K) (d_is_name.kws K) (d_is_name.at_ K) fd) : FnOk Pg w K mg base (L2.CX Pg w) 1 (d_is_name.at_ K) fd ["name"] (spD (ev K px) 1 m_is_name) :=
  ok_def (fb := b_is_name) (e := ev K px) F sc_is_name rfl fun cdv A outer s H E hr B =>
    ds_seq (ds_if (dt_not (dt_chain (oLe B.hK B.hu) (oLe B.hK B.hu) (de_int) (de_callB (bLen B.hK) rfl (T.free 2) (by decide +kernel) (da_cons (dv 0) (da_nil))) (de_gint (T.int 37)))) (ds_one (ds_ret (de_bl))) (ds_nil))
    (ds_one (ds_ret (de_callB (bAll rfl) rfl (T.free 39) (by decide +kernel) (da_cons (de_lc (own := [("char", 1)]) B rfl sc_is_name.nd (di_seq B.hK (dv 0)) (by kernel_rfl) (fun s1 H1 C1 cl1 fp1 B => dgx_name (i := 1) sc_is_name.nd rfl (by first | exact Or.inl rfl | exact Or.inr rfl)) (fun s1 H1 C1 cl1 fp1 B => dts_nil) (fun s1 H1 C1 cl1 fp1 B => de_cmp (oIn B.hK B.hu) (dv 1) (de_gstr (T.str 38)) rfl)) (da_nil)))))
theorem q_is_name (T : Tx fx fn (ev K px) mg) : Q_ Pg w (ev K px) mg base 1 (d_is_name.at_ K) ["name"] 1 m_is_name := by
  obtain ⟨fd, F⟩ := T.c.def_ 13 (d := d_is_name)
  exact q_mk F rfl (ok_is_name T F) (fun _ _ _ _ _ _ us hl => match us, hl with | [_], _ => rfl)
theorem sc_places_of : FnScope ["atom"] ["atom"] (defScope (top 18)) := ⟨rfl, rfl, rfl, by decide +kernel, rfl, by decide +kernel, by decide +kernel⟩
theorem kp_places_of (T : Tx fx fn (ev K px) mg) : PySem.W.keepIn K (.ref (d_places_of.at_ K)) = true := by
  obtain ⟨fd, F⟩ := T.c.def_ 14 (d := d_places_of)
  exact F.kp
theorem ok_places_of (T : Tx fx fn (ev K px) mg) {fd : FuncData} (F : FunD K d_places_of.name d_places_of.qual d_places_of.params d_places_of.body d_places_of.scope (d_places_of.dvs K) (d_places_of.kws K) (d_places_of.at_ K) fd) : FnOk Pg w K mg base (L2.CX Pg w) 1 (d_places_of.at_ K) fd ["atom"] (spD (ev K px) 1 m_places_of) :=
  ok_def (fb := b_places_of) (e := ev K px) F sc_places_of rfl fun cdv A outer s H E hr B =>
    ds_one (ds_ret (de_callTy (bList B.hK) rfl (T.free 1) (by decide +kernel) (da_cons (de_slice B.hK (dv 0) (do_some (de_int)) (do_none)) (da_nil))))
theorem q_places_of (T : Tx fx fn (ev K px) mg) : Q_ Pg w (ev K px) mg base 1 (d_places_of.at_ K) ["atom"] 1 m_places_of := by
  obtain ⟨fd, F⟩ := T.c.def_ 14 (d := d_places_of)
  exact q_mk F rfl (ok_places_of T F) (fun _ _ _ _ _ _ us hl => match us, hl with | [_], _ => rfl)
theorem sc_size_of : FnScope ["body", "atom", "places", "size", "place"] ["body"] (defScope (top 28)) := ⟨rfl, rfl, rfl, by decide +kernel, rfl, by decide +kernel, by decide +kernel⟩
theorem kp_size_of (T : Tx fx fn (ev K px) mg) : PySem.W.keepIn K (.ref (d_size_of.at_ K)) = true := by
  obtain ⟨fd, F⟩ := T.c.def_ 15 (d := d_size_of)
  exact F.kp
theorem ok_size_of (T : Tx fx fn (ev K px) mg) {fd : FuncData} (F : FunD K d_size_of.name d_size_of.qual d_size_of.params d_size_of.body d_size_of.scope (d_size_of.dvs K) (d_size_of.kws K) (d_size_of.at_ K) fd) : FnOk Pg w K mg base (L2.CX Pg w) 3 (d_size_of.at_ K) fd ["body"] (spD (ev K px) 1 m_size_of) :=
  ok_def (fb := b_size_of) (e := ev K px) F sc_size_of rfl fun cdv A outer s H E hr B =>
    ds_seq (ds_if (dt_not (dt_chain (oLe B.hK B.hu) (oLe B.hK B.hu) (de_int) (de_callB (bLen B.hK) rfl (T.free 2) (by decide +kernel) (da_cons (dv 0) (da_nil))) (de_gint (T.int 40)))) (ds_one (ds_raiseT (c := 11) B rfl (T.exc 41 42 rfl) rfl rfl)) (ds_nil))
    (ds_seq (ds_for B.pass rfl (di_seq B.hK (dv 0)) (dg_name (i := 1) sc_size_of.nd rfl (by first | exact Or.inl rfl | exact Or.inr rfl)) (ds_one (ds_if (PW.pt (dw_or (dt_cmp (oEq B.hK B.hu) (dv 1) (de_gcon (T.glo 27) (T.pr 26)) (nomark _)) (dw_or1 (dt_not (dt_tru B.hK (de_call (clb B (q_is_atom T) (hr.mono (j := 2) (by decide))) rfl rfl (T.glo 35) (kp_is_atom T) (da_cons (dv 1) (da_cons (de_gint (T.int 43)) (da_nil))))))))) (ds_one (ds_raiseT (c := 11) B rfl (T.exc 41 42 rfl) rfl rfl)) (ds_nil))))
    (ds_seq (ds_setLc2 (i := 2) (own := [("atom", 1)]) (own1 := [("place", 4)]) B rfl sc_size_of.nd rfl rfl (di_seq B.hK (dv 0)) (by kernel_rfl) (fun s1 H1 C1 cl1 fp1 B => dgx_name (i := 1) sc_size_of.nd rfl (by first | exact Or.inl rfl | exact Or.inr rfl)) (fun s1 H1 C1 cl1 fp1 B => dts_nil) (fun s1 H1 C1 cl1 fp1 B => di_seq B.hK (de_call (clb B (q_places_of T) (hr.mono (j := 1) (by decide))) rfl rfl (T.glo 44) (kp_places_of T) (da_cons (dv 1) (da_nil)))) (fun s1 H1 C1 cl1 fp1 B => dgx_name (i := 4) sc_size_of.nd rfl (by first | exact Or.inl rfl | exact Or.inr rfl)) (fun s1 H1 C1 cl1 fp1 B => dts_nil) (fun s1 H1 C1 cl1 fp1 B => dv 4))
    (ds_seq (ds_set (i := 3) sc_size_of.nd rfl (by first | exact Or.inl rfl | exact Or.inr rfl) (de_bin (oAdd B.hK) (de_int) (de_callB (bMax rfl) rfl (T.free 45) (by decide +kernel) (da_cons (dv 2) (da_nil)))))
    (ds_seq (ds_for B.pass rfl (di_range1 rfl (T.free 8) (da_cons (dv 3) (da_nil))) (dg_name (i := 4) sc_size_of.nd rfl (by first | exact Or.inl rfl | exact Or.inr rfl)) (ds_one (ds_if (dt_cmp (oNotIn B.hK B.hu) (dv 4) (dv 2) rfl) (ds_one (ds_raiseT (c := 11) B rfl (T.exc 41 42 rfl) rfl rfl)) (ds_nil))))
    (ds_one (ds_ret (dv 3)))))))
theorem q_size_of (T : Tx fx fn (ev K px) mg) : Q_ Pg w (ev K px) mg base 3 (d_size_of.at_ K) ["body"] 1 m_size_of := by
  obtain ⟨fd, F⟩ := T.c.def_ 15 (d := d_size_of)
  exact q_mk F rfl (ok_size_of T F) (fun _ _ _ _ _ _ us hl => match us, hl with | [_], _ => rfl)
theorem sc_Promise___init__ : FnScope ["self", "name", "body", "head", "size"] ["self", "name", "body", "head"] (defScope (inCls (top 29) 0)) := ⟨rfl, rfl, rfl, by decide +kernel, rfl, by decide +kernel, by decide +kernel⟩
theorem kp_Promise___init__ (T : Tx fx fn (ev K px) mg) : PySem.W.keepIn K (.ref (d_Promise___init__.at_ K)) = true := by
  obtain ⟨fd, F⟩ := T.c.def_ 16 (d := d_Promise___init__)
  exact F.kp
theorem ok_Promise___init__ (T : Tx fx fn (ev K px) mg) {fd : FuncData} (F : FunD K d_Promise___init__.name d_Promise___init__.qual d_Promise___init__.params d_Promise___init__.body d_Promise___init__.scope (d_Promise___init__.dvs K) (d_Promise___init__.kws K) (d_Promise___init__.at_ K) fd) : FnOk Pg w K mg base (L2.CX Pg w) 4 (d_Promise___init__.at_ K) fd ["self", "name", "body", "head"] (spD (ev K px) 4 m_Promise___init__) :=
  ok_def (fb := b_Promise___init__) (e := ev K px) F sc_Promise___init__ rfl fun cdv A outer s H E hr B =>
    ds_seq (ds_if (dt_not (dt_tru B.hK (de_call (clb B (q_is_name T) (hr.mono (j := 1) (by decide))) rfl rfl (T.glo 46) (kp_is_name T) (da_cons (dv 1) (da_nil))))) (ds_one (ds_raiseT (c := 11) B rfl (T.exc 41 42 rfl) rfl rfl)) (ds_nil))
    (ds_seq (ds_set (i := 4) sc_Promise___init__.nd rfl (by first | exact Or.inl rfl | exact Or.inr rfl) (de_call (clb B (q_size_of T) (hr.mono (j := 3) (by decide))) rfl rfl (T.glo 47) (kp_size_of T) (da_cons (dv 2) (da_nil))))
    (ds_seq (ds_if (dt_not (dt_tru B.hK (de_call (clb B (q_is_atom T) (hr.mono (j := 2) (by decide))) rfl rfl (T.glo 35) (kp_is_atom T) (da_cons (dv 3) (da_cons (dv 4) (da_nil)))))) (ds_one (ds_raiseT (c := 11) B rfl (T.exc 41 42 rfl) rfl rfl)) (ds_nil))
    (ds_seq (ds_setf (i := 0) B.hK rfl (all1 ⟨T.cls 10, T.noat 11⟩) rfl (by first | exact Or.inl rfl | exact Or.inr (Or.inl rfl) | exact Or.inr (Or.inr rfl)) (dv 1))
    (ds_seq (ds_setf (i := 0) B.hK rfl (all1 ⟨T.cls 10, T.noat 48⟩) rfl (by first | exact Or.inl rfl | exact Or.inr (Or.inl rfl) | exact Or.inr (Or.inr rfl)) (de_callTy (bTuple B.hK) rfl (T.free 7) (by decide +kernel) (da_cons (dv 2) (da_nil))))
    (ds_seq (ds_setf (i := 0) B.hK rfl (all1 ⟨T.cls 10, T.noat 49⟩) rfl (by first | exact Or.inl rfl | exact Or.inr (Or.inl rfl) | exact Or.inr (Or.inr rfl)) (dv 3))
    (ds_one (ds_setf (i := 0) B.hK rfl (all1 ⟨T.cls 10, T.noat 50⟩) rfl (by first | exact Or.inl rfl | exact Or.inr (Or.inl rfl) | exact Or.inr (Or.inr rfl)) (dv 4))))))))
theorem q_Promise___init__ (T : Tx fx fn (ev K px) mg) : Q_ Pg w (ev K px) mg base 4 (d_Promise___init__.at_ K) ["self", "name", "body", "head"] 4 m_Promise___init__ := by
  obtain ⟨fd, F⟩ := T.c.def_ 16 (d := d_Promise___init__)
  exact q_mk F rfl (ok_Promise___init__ T F) (fun _ _ _ _ _ _ us hl => match us, hl with | [_, _, _, _], _ => rfl)
theorem sc_Promise_read : FnScope ["cls", "text", "name", "body", "head", "why"] ["cls", "text"] (defScope (inCls (top 29) 5)) := ⟨rfl, rfl, rfl, by decide +kernel, rfl, by decide +kernel, by decide +kernel⟩
theorem kp_Promise_read (T : Tx fx fn (ev K px) mg) : PySem.W.keepIn K (.ref (d_Promise_read.at_ K)) = true := by
  obtain ⟨fd, F⟩ := T.c.def_ 17 (d := d_Promise_read)
  exact F.kp
theorem ok_Promise_read (T : Tx fx fn (ev K px) mg) {fd : FuncData} (F : FunD K d_Promise_read.name d_Promise_read.qual d_Promise_read.params d_Promise_read.body d_Promise_read.scope (d_Promise_read.dvs K) (d_Promise_read.kws K) (d_Promise_read.at_ K) fd) : FnOk Pg w K mg base (L2.CX Pg w) 6 (d_Promise_read.at_ K) fd ["cls", "text"] (spD (ev K px) 2 m_Promise_read) :=
  ok_def (fb := b_Promise_read) (e := ev K px) F sc_Promise_read rfl fun cdv A outer s H E hr B =>
    ds_seq (ds_asg (de_call (clb B (q_promise_parts T) (hr.mono (j := 4) (by decide))) rfl rfl (T.glo 51) (kp_promise_parts T) (da_cons (dv 1) (da_nil))) (dg_tup B.hK rfl (dgs_cons (dg_name (i := 2) sc_Promise_read.nd rfl (by first | exact Or.inl rfl | exact Or.inr rfl)) (dgs_cons (dg_name (i := 3) sc_Promise_read.nd rfl (by first | exact Or.inl rfl | exact Or.inr rfl)) (dgs_cons (dg_name (i := 4) sc_Promise_read.nd rfl (by first | exact Or.inl rfl | exact Or.inr rfl)) (dgs_nil))))))
    (ds_one (ds_try_as B rfl rfl sc_Promise_read.nd (i := 5) rfl rfl ⟨rfl, by decide, .inl (T.glo 42)⟩ (T.tb (c := 11) 54) (fun W2 pn xe B => ds_one (ds_ret (de_makeV (c := 99) (clbMk B (T.mkr 52) (q_Promise___init__ T) (hr.mono (by decide))) rfl (dv 0) B.hK (T.keep 53) (da_cons (dv 2) (da_cons (dv 3) (da_cons (dv 4) (da_nil))))))) (fun p oe cls dx pn hz hf B => have T : Tx fx fn (ev K (pxOf p cls dx)) mg := T.at_ _; ds_one (ds_bad))))
theorem q_Promise_read (T : Tx fx fn (ev K px) mg) : Q_ Pg w (ev K px) mg base 6 (d_Promise_read.at_ K) ["cls", "text"] 2 m_Promise_read := by
  obtain ⟨fd, F⟩ := T.c.def_ 17 (d := d_Promise_read)
  exact q_mk F rfl (ok_Promise_read T F) (fun _ _ _ _ _ _ us hl => match us, hl with | [_, _], _ => rfl)
theorem sc_known : FnScope ["name"] ["name"] (defScope (top 34)) := ⟨rfl, rfl, rfl, by decide +kernel, rfl, by decide +kernel, by decide +kernel⟩
theorem kp_known (T : Tx fx fn (ev K px) mg) : PySem.W.keepIn K (.ref (d_known.at_ K)) = true := by
  obtain ⟨fd, F⟩ := T.c.def_ 18 (d := d_known)
  exact F.kp
theorem ok_known (T : Tx fx fn (ev K px) mg) (TB : TabsX w K tbs) {fd : FuncData} (F : FunD K d_known.name d_known.qual d_known.params d_known.body d_known.scope (d_known.dvs K) (d_known.kws K) (d_known.at_ K) fd) : FnOk Pg w K mg base (L2.CX Pg w) 7 (d_known.at_ K) fd ["name"] (spD (ev K px) 1 m_known) :=
  ok_def (fb := b_known) (e := ev K px) F sc_known rfl fun cdv A outer s H E hr B =>
    ds_seq (ds_if (dt_cmp (oNotIn B.hK B.hu) (dv 0) (de_gcon (T.glo 56) (T.pr 55)) rfl) (ds_one (ds_raise1 (c := 8) B rfl (sup_UnknownName T) (hr.mono (j := 1) (by decide)) rfl (T.glo 58) (dv 0))) (ds_nil))
    (ds_one (ds_ret (de_cm B (cm_ok (T.pr 62)) (clbC B (q_Promise_read T) (hr.mono (by decide))) rfl (de_gref (n := 99) (T.glo 59)) (da_cons (de_gdct B.hK (T.glo 61) (TB.tab 0) (T.pr 60) (dv 0)) (da_nil)))))
theorem q_known (T : Tx fx fn (ev K px) mg) (TB : TabsX w K tbs) : Q_ Pg w (ev K px) mg base 7 (d_known.at_ K) ["name"] 1 m_known := by
  obtain ⟨fd, F⟩ := T.c.def_ 18 (d := d_known)
  exact q_mk F rfl (ok_known T TB F) (fun _ _ _ _ _ _ us hl => match us, hl with | [_], _ => rfl)
theorem sc_check_rules : FnScope ["rules", "rule"] ["rules"] (defScope (top 42)) := ⟨rfl, rfl, rfl, by decide +kernel, rfl, by decide +kernel, by decide +kernel⟩
theorem kp_check_rules (T : Tx fx fn (ev K px) mg) : PySem.W.keepIn K (.ref (d_check_rules.at_ K)) = true := by
  obtain ⟨fd, F⟩ := T.c.def_ 19 (d := d_check_rules)
  exact F.kp
theorem ok_check_rules (T : Tx fx fn (ev K px) mg) {fd : FuncData} (F : FunD K d_check_rules.name d_check_rules.qual d_check_rules.params d_check_rules.body d_check_rules.scope (d_check_rules.dvs K) (d_check_rules.kws K) (d_check_rules.at_ K) fd) : FnOk Pg w K mg base (L2.CX Pg w) 2 (d_check_rules.at_ K) fd ["rules"] (spD (ev K px) 1 m_check_rules) :=
  ok_def (fb := b_check_rules) (e := ev K px) F sc_check_rules rfl fun cdv A outer s H E hr B =>
    ds_one (ds_for B.pass rfl (di_seq B.hK (dv 0)) (dg_name (i := 1) sc_check_rules.nd rfl (by first | exact Or.inl rfl | exact Or.inr rfl)) (ds_one (ds_if (dt_cmp (oNotIn B.hK B.hu) (dv 1) (de_gcon (T.glo 64) (T.pr 63)) rfl) (ds_one (ds_raise1 (c := 8) B rfl (sup_UnknownName T) (hr.mono (j := 1) (by decide)) rfl (T.glo 58) (dv 1))) (ds_nil))))
theorem q_check_rules (T : Tx fx fn (ev K px) mg) : Q_ Pg w (ev K px) mg base 2 (d_check_rules.at_ K) ["rules"] 1 m_check_rules := by
  obtain ⟨fd, F⟩ := T.c.def_ 19 (d := d_check_rules)
  exact q_mk F rfl (ok_check_rules T F) (fun _ _ _ _ _ _ us hl => match us, hl with | [_], _ => rfl)
theorem sc_in_order : FnScope ["rules", "rule"] ["rules"] (defScope (top 43)) := ⟨rfl, rfl, rfl, by decide +kernel, rfl, by decide +kernel, by decide +kernel⟩
theorem kp_in_order (T : Tx fx fn (ev K px) mg) : PySem.W.keepIn K (.ref (d_in_order.at_ K)) = true := by
  obtain ⟨fd, F⟩ := T.c.def_ 20 (d := d_in_order)
  exact F.kp
theorem ok_in_order (T : Tx fx fn (ev K px) mg) {fd : FuncData} (F : FunD K d_in_order.name d_in_order.qual d_in_order.params d_in_order.body d_in_order.scope (d_in_order.dvs K) (d_in_order.kws K) (d_in_order.at_ K) fd) : FnOk Pg w K mg base (L2.CX Pg w) 3 (d_in_order.at_ K) fd ["rules"] (spD (ev K px) 1 m_in_order) :=
  ok_def (fb := b_in_order) (e := ev K px) F sc_in_order rfl fun cdv A outer s H E hr B =>
    ds_seq (ds_expr (de_call (clb B (q_check_rules T) (hr.mono (j := 2) (by decide))) rfl rfl (T.glo 65) (kp_check_rules T) (da_cons (dv 0) (da_nil))))
    (ds_one (ds_ret (de_callTy (bTuple B.hK) rfl (T.free 7) (by decide +kernel) (da_cons (de_lc (own := [("rule", 1)]) B rfl sc_in_order.nd (di_seq B.hK (de_gcon (T.glo 64) (T.pr 63))) (by kernel_rfl) (fun s1 H1 C1 cl1 fp1 B => dgx_name (i := 1) sc_in_order.nd rfl (by first | exact Or.inl rfl | exact Or.inr rfl)) (fun s1 H1 C1 cl1 fp1 B => dts_one (dt_cmp (oIn B.hK B.hu) (dv 1) (dv 0) rfl)) (fun s1 H1 C1 cl1 fp1 B => dv 1)) (da_nil)))))
theorem q_in_order (T : Tx fx fn (ev K px) mg) : Q_ Pg w (ev K px) mg base 3 (d_in_order.at_ K) ["rules"] 1 m_in_order := by
  obtain ⟨fd, F⟩ := T.c.def_ 20 (d := d_in_order)
  exact q_mk F rfl (ok_in_order T F) (fun _ _ _ _ _ _ us hl => match us, hl with | [_], _ => rfl)
theorem sc_rule_lot : FnScope ["rules", "rule"] ["rules"] (defScope (top 45)) := ⟨rfl, rfl, rfl, by decide +kernel, rfl, by decide +kernel, by decide +kernel⟩
theorem kp_rule_lot (T : Tx fx fn (ev K px) mg) : PySem.W.keepIn K (.ref (d_rule_lot.at_ K)) = true := by
  obtain ⟨fd, F⟩ := T.c.def_ 21 (d := d_rule_lot)
  exact F.kp
theorem q_rule_lot (T : Tx fx fn (ev K px) mg) (TB : TabsX w K tbs) : QS_ Pg w (ev K px) mg base 8 (d_rule_lot.at_ K) 0 m_rule_lot := by
  obtain ⟨fd, F⟩ := T.c.def_ 21 (d := d_rule_lot)
  exact ok_defS (ps := []) (pv := "rules") (nl := 1) (fb := b_rule_lot) (e := ev K px) F sc_rule_lot rfl (fun _ _ _ _ _ _ us rest hl => match us, rest, hl with | [], [], _ => rfl | [], _ :: _, _ => rfl) fun cdv A outer s H E hr B =>
    ds_one (ds_ret (de_call (clb B (q_lot_of T) (hr.mono (j := 4) (by decide))) rfl rfl (T.glo 68) (kp_lot_of T) (da_cons (de_lc (own := [("rule", 1)]) B rfl sc_rule_lot.nd (di_seq B.hK (de_call (clb B (q_in_order T) (hr.mono (j := 3) (by decide))) rfl rfl (T.glo 66) (kp_in_order T) (da_cons (dv 0) (da_nil)))) (by kernel_rfl) (fun s1 H1 C1 cl1 fp1 B => dgx_name (i := 1) sc_rule_lot.nd rfl (by first | exact Or.inl rfl | exact Or.inr rfl)) (fun s1 H1 C1 cl1 fp1 B => dts_nil) (fun s1 H1 C1 cl1 fp1 B => de_call (clb B (q_known T TB) (hr.mono (j := 7) (by decide))) rfl rfl (T.glo 67) (kp_known T) (da_cons (dv 1) (da_nil)))) (da_nil))))
theorem sc__law_rule_lot : FnScope ["names"] ["names"] (defScope (top 53)) := ⟨rfl, rfl, rfl, by decide +kernel, rfl, by decide +kernel, by decide +kernel⟩
theorem kp__law_rule_lot (T : Tx fx fn (ev K px) mg) : PySem.W.keepIn K (.ref (d__law_rule_lot.at_ K)) = true := by
  obtain ⟨fd, F⟩ := T.c.def_ 22 (d := d__law_rule_lot)
  exact F.kp
theorem ok__law_rule_lot (T : Tx fx fn (ev K px) mg) (TB : TabsX w K tbs) {fd : FuncData} (F : FunD K d__law_rule_lot.name d__law_rule_lot.qual d__law_rule_lot.params d__law_rule_lot.body d__law_rule_lot.scope (d__law_rule_lot.dvs K) (d__law_rule_lot.kws K) (d__law_rule_lot.at_ K) fd) : FnOk Pg w K mg base (L2.CX Pg w) 9 (d__law_rule_lot.at_ K) fd ["names"] (spD (ev K px) 1 m__law_rule_lot) :=
  ok_def (fb := b__law_rule_lot) (e := ev K px) F sc__law_rule_lot rfl fun cdv A outer s H E hr B =>
    ds_seq (ds_if (dt_cmp (oEq B.hK B.hu) (de_callB (bLen B.hK) rfl (T.free 2) (by decide +kernel) (da_cons (dv 0) (da_nil))) (de_int) (nomark _)) (ds_one (ds_ret (de_callS0 (clbS B (q_rule_lot T TB) (hr.mono (by decide))) rfl (T.glo 69) (kp_rule_lot T)))) (ds_nil))
    (ds_seq (ds_if (dt_cmp (oEq B.hK B.hu) (de_callB (bLen B.hK) rfl (T.free 2) (by decide +kernel) (da_cons (dv 0) (da_nil))) (de_int) (nomark _)) (ds_one (ds_ret (de_callS (clbS B (q_rule_lot T TB) (hr.mono (by decide))) rfl (T.glo 69) (kp_rule_lot T) (da_cons (de_ix (xIx B.hK) (dv 0) (de_int)) (da_nil))))) (ds_nil))
    (ds_seq (ds_if (dt_cmp (oEq B.hK B.hu) (de_callB (bLen B.hK) rfl (T.free 2) (by decide +kernel) (da_cons (dv 0) (da_nil))) (de_int) (nomark _)) (ds_one (ds_ret (de_callS (clbS B (q_rule_lot T TB) (hr.mono (by decide))) rfl (T.glo 69) (kp_rule_lot T) (da_cons (de_ix (xIx B.hK) (dv 0) (de_int)) (da_cons (de_ix (xIx B.hK) (dv 0) (de_int)) (da_nil)))))) (ds_nil))
    (ds_seq (ds_if (dt_cmp (oEq B.hK B.hu) (de_callB (bLen B.hK) rfl (T.free 2) (by decide +kernel) (da_cons (dv 0) (da_nil))) (de_int) (nomark _)) (ds_one (ds_ret (de_callS (clbS B (q_rule_lot T TB) (hr.mono (by decide))) rfl (T.glo 69) (kp_rule_lot T) (da_cons (de_ix (xIx B.hK) (dv 0) (de_int)) (da_cons (de_ix (xIx B.hK) (dv 0) (de_int)) (da_cons (de_ix (xIx B.hK) (dv 0) (de_int)) (da_nil))))))) (ds_nil))
    (ds_seq (ds_if (dt_cmp (oEq B.hK B.hu) (de_callB (bLen B.hK) rfl (T.free 2) (by decide +kernel) (da_cons (dv 0) (da_nil))) (de_int) (nomark _)) (ds_one (ds_ret (de_callS (clbS B (q_rule_lot T TB) (hr.mono (by decide))) rfl (T.glo 69) (kp_rule_lot T) (da_cons (de_ix (xIx B.hK) (dv 0) (de_int)) (da_cons (de_ix (xIx B.hK) (dv 0) (de_int)) (da_cons (de_ix (xIx B.hK) (dv 0) (de_int)) (da_cons (de_ix (xIx B.hK) (dv 0) (de_int)) (da_nil)))))))) (ds_nil))
    (ds_seq (ds_if (dt_cmp (oEq B.hK B.hu) (de_callB (bLen B.hK) rfl (T.free 2) (by decide +kernel) (da_cons (dv 0) (da_nil))) (de_int) (nomark _)) (ds_one (ds_ret (de_callS (clbS B (q_rule_lot T TB) (hr.mono (by decide))) rfl (T.glo 69) (kp_rule_lot T) (da_cons (de_ix (xIx B.hK) (dv 0) (de_int)) (da_cons (de_ix (xIx B.hK) (dv 0) (de_int)) (da_cons (de_ix (xIx B.hK) (dv 0) (de_int)) (da_cons (de_ix (xIx B.hK) (dv 0) (de_int)) (da_cons (de_ix (xIx B.hK) (dv 0) (de_int)) (da_nil))))))))) (ds_nil))
    (ds_one (ds_ret (de_callS (clbS B (q_rule_lot T TB) (hr.mono (by decide))) rfl (T.glo 69) (kp_rule_lot T) (da_cons (de_ix (xIx B.hK) (dv 0) (de_int)) (da_cons (de_ix (xIx B.hK) (dv 0) (de_int)) (da_cons (de_ix (xIx B.hK) (dv 0) (de_int)) (da_cons (de_ix (xIx B.hK) (dv 0) (de_int)) (da_cons (de_ix (xIx B.hK) (dv 0) (de_int)) (da_cons (de_ix (xIx B.hK) (dv 0) (de_int)) (da_nil)))))))))))))))
theorem q__law_rule_lot (T : Tx fx fn (ev K px) mg) (TB : TabsX w K tbs) : Q_ Pg w (ev K px) mg base 9 (d__law_rule_lot.at_ K) ["names"] 1 m__law_rule_lot := by
  obtain ⟨fd, F⟩ := T.c.def_ 22 (d := d__law_rule_lot)
  exact q_mk F rfl (ok__law_rule_lot T TB F) (fun _ _ _ _ _ _ us hl => match us, hl with | [_], _ => rfl)
theorem sc__law_parts : FnScope ["promise"] ["promise"] (defScope (top 54)) := ⟨rfl, rfl, rfl, by decide +kernel, rfl, by decide +kernel, by decide +kernel⟩
theorem kp__law_parts (T : Tx fx fn (ev K px) mg) : PySem.W.keepIn K (.ref (d__law_parts.at_ K)) = true := by
  obtain ⟨fd, F⟩ := T.c.def_ 23 (d := d__law_parts)
  exact F.kp
theorem ok__law_parts (T : Tx fx fn (ev K px) mg) {fd : FuncData} (F : FunD K d__law_parts.name d__law_parts.qual d__law_parts.params d__law_parts.body d__law_parts.scope (d__law_parts.dvs K) (d__law_parts.kws K) (d__law_parts.at_ K) fd) : FnOk Pg w K mg base (L2.CX Pg w) 1 (d__law_parts.at_ K) fd ["promise"] (spD (ev K px) 1 m__law_parts) :=
  ok_def (fb := b__law_parts) (e := ev K px) F sc__law_parts rfl fun cdv A outer s H E hr B =>
    ds_seq (ds_if (dt_not (dt_tru B.hK (de_callB (bIsi B.hK (T.isi 0)) rfl (T.free 5) (by decide +kernel) (da_cons (dv 0) (da_cons (de_gref (n := 99) (T.glo 59)) (da_nil)))))) (ds_one (ds_ret (de_non))) (ds_nil))
    (ds_one (ds_ret (de_tup (da_cons (de_fld B.hK rfl (all1 ⟨T.cls 10, T.noat 11⟩) (dv 0)) (da_cons (de_fld B.hK rfl (all1 ⟨T.cls 10, T.noat 48⟩) (dv 0)) (da_cons (de_fld B.hK rfl (all1 ⟨T.cls 10, T.noat 49⟩) (dv 0)) (da_nil)))))))
theorem q__law_parts (T : Tx fx fn (ev K px) mg) : Q_ Pg w (ev K px) mg base 1 (d__law_parts.at_ K) ["promise"] 1 m__law_parts := by
  obtain ⟨fd, F⟩ := T.c.def_ 23 (d := d__law_parts)
  exact q_mk F rfl (ok__law_parts T F) (fun _ _ _ _ _ _ us hl => match us, hl with | [_], _ => rfl)
theorem sc__law_lot_told : FnScope ["names", "lot", "e", "base", "promise"] ["names"] (defScope (top 55)) := ⟨rfl, rfl, rfl, by decide +kernel, rfl, by decide +kernel, by decide +kernel⟩
theorem kp__law_lot_told (T : Tx fx fn (ev K px) mg) : PySem.W.keepIn K (.ref (d__law_lot_told.at_ K)) = true := by
  obtain ⟨fd, F⟩ := T.c.def_ 24 (d := d__law_lot_told)
  exact F.kp
theorem ok__law_lot_told (T : Tx fx fn (ev K px) mg) (TB : TabsX w K tbs) {fd : FuncData} (F : FunD K d__law_lot_told.name d__law_lot_told.qual d__law_lot_told.params d__law_lot_told.body d__law_lot_told.scope (d__law_lot_told.dvs K) (d__law_lot_told.kws K) (d__law_lot_told.at_ K) fd) : FnOk Pg w K mg base (L2.CX Pg w) 10 (d__law_lot_told.at_ K) fd ["names"] (spD (ev K px) 1 m__law_lot_told) :=
  ok_def (fb := b__law_lot_told) (e := ev K px) F sc__law_lot_told rfl fun cdv A outer s H E hr B =>
    ds_seq (ds_try_as B rfl rfl sc__law_lot_told.nd (i := 2) rfl rfl ⟨rfl, by decide, .inl (T.glo 58)⟩ (T.tb (c := 8) 73) (fun W2 pn xe B => ds_one (ds_set (i := 1) sc__law_lot_told.nd rfl (by first | exact Or.inl rfl | exact Or.inr rfl) (de_call (clb B (q__law_rule_lot T TB) (hr.mono (j := 9) (by decide))) rfl rfl (T.glo 70) (kp__law_rule_lot T) (da_cons (dv 0) (da_nil))))) (fun p oe cls dx pn hz hf B => have T : Tx fx fn (ev K (pxOf p cls dx)) mg := T.at_ _; ds_seq (ds_set (i := 3) sc__law_lot_told.nd rfl (by first | exact Or.inl rfl | exact Or.inr rfl) (de_and (de_isE B (T.isi0 0) (allx T) rfl (T.free 5) rfl (by first | exact Or.inl rfl | exact Or.inr (Or.inl rfl) | exact Or.inr (Or.inr rfl)) (de_gref (n := 0) (T.glo 71))) (de_one (de_isE B (T.isi0 0) (allx T) rfl (T.free 5) rfl (by first | exact Or.inl rfl | exact Or.inr (Or.inl rfl) | exact Or.inr (Or.inr rfl)) (de_gty (T.free 72))))))
    (ds_one (ds_ret (de_tup (da_cons (de_str) (da_cons (de_xf (fl := 37) B rfl (all2 (xf_of (T.pr 18)) (xf_of (T.pr 57))) rfl (by first | exact Or.inl rfl | exact Or.inr (Or.inl rfl) | exact Or.inr (Or.inr rfl))) (da_cons (de_and (dv 3) (de_one (de_not (de_isE B (T.isi0 0) (allx T) rfl (T.free 5) rfl (by first | exact Or.inl rfl | exact Or.inr (Or.inl rfl) | exact Or.inr (Or.inr rfl)) (de_gref (n := 13) (T.glo 19)))))) (da_nil)))))))))
    (ds_seq (ds_if (dt_not (dt_tru B.hK (de_callB (bIsi B.hK (T.isi 0)) rfl (T.free 5) (by decide +kernel) (da_cons (dv 1) (da_cons (de_gref (n := 108) (T.glo 13)) (da_nil)))))) (ds_one (ds_ret (de_non))) (ds_nil))
    (ds_one (ds_ret (de_tup (da_cons (de_str) (da_cons (de_lc (own := [("promise", 4)]) B rfl sc__law_lot_told.nd (di_iterO B (itf_Lot T) (hr.mono (by decide)) (dv 1)) (by kernel_rfl) (fun s1 H1 C1 cl1 fp1 B => dgx_name (i := 4) sc__law_lot_told.nd rfl (by first | exact Or.inl rfl | exact Or.inr rfl)) (fun s1 H1 C1 cl1 fp1 B => dts_nil) (fun s1 H1 C1 cl1 fp1 B => de_call (clb B (q__law_parts T) (hr.mono (j := 1) (by decide))) rfl rfl (T.glo 74) (kp__law_parts T) (da_cons (dv 4) (da_nil)))) (da_nil)))))))
theorem q__law_lot_told (T : Tx fx fn (ev K px) mg) (TB : TabsX w K tbs) : Q_ Pg w (ev K px) mg base 10 (d__law_lot_told.at_ K) ["names"] 1 m__law_lot_told := by
  obtain ⟨fd, F⟩ := T.c.def_ 24 (d := d__law_lot_told)
  exact q_mk F rfl (ok__law_lot_told T TB F) (fun _ _ _ _ _ _ us hl => match us, hl with | [_], _ => rfl)
theorem sc__law_known : FnScope [] [] (defScope (top 50)) := ⟨rfl, rfl, rfl, by decide +kernel, rfl, by decide +kernel, by decide +kernel⟩
theorem kp__law_known (T : Tx fx fn (ev K px) mg) : PySem.W.keepIn K (.ref (d__law_known.at_ K)) = true := by
  obtain ⟨fd, F⟩ := T.c.def_ 25 (d := d__law_known)
  exact F.kp
theorem ok__law_known (T : Tx fx fn (ev K px) mg) {fd : FuncData} (F : FunD K d__law_known.name d__law_known.qual d__law_known.params d__law_known.body d__law_known.scope (d__law_known.dvs K) (d__law_known.kws K) (d__law_known.at_ K) fd) : FnOk Pg w K mg base (L2.CX Pg w) 1 (d__law_known.at_ K) fd [] (spD (ev K px) 0 m__law_known) :=
  ok_def (fb := b__law_known) (e := ev K px) F sc__law_known rfl fun cdv A outer s H E hr B =>
    ds_one (ds_ret (de_lst (da_cons (de_tup (da_cons (de_str) (da_cons (de_lst (da_cons (de_tup (da_cons (de_str) (da_cons (de_int) (da_nil)))) (da_cons (de_tup (da_cons (de_str) (da_cons (de_int) (da_cons (de_int) (da_nil))))) (da_cons (de_tup (da_cons (de_str) (da_cons (de_int) (da_nil)))) (da_nil))))) (da_cons (de_tup (da_cons (de_str) (da_cons (de_int) (da_cons (de_int) (da_nil))))) (da_nil))))) (da_cons (de_tup (da_cons (de_str) (da_cons (de_lst (da_cons (de_tup (da_cons (de_str) (da_cons (de_int) (da_nil)))) (da_cons (de_tup (da_cons (de_str) (da_cons (de_int) (da_cons (de_int) (da_nil))))) (da_cons (de_tup (da_cons (de_str) (da_cons (de_int) (da_nil)))) (da_cons (de_tup (da_cons (de_str) (da_cons (de_int) (da_cons (de_int) (da_nil))))) (da_cons (de_tup (da_cons (de_str) (da_cons (de_int) (da_nil)))) (da_nil))))))) (da_cons (de_tup (da_cons (de_str) (da_cons (de_int) (da_cons (de_int) (da_nil))))) (da_nil))))) (da_cons (de_tup (da_cons (de_str) (da_cons (de_lst (da_cons (de_tup (da_cons (de_str) (da_cons (de_int) (da_nil)))) (da_cons (de_tup (da_cons (de_str) (da_cons (de_int) (da_cons (de_int) (da_nil))))) (da_cons (de_tup (da_cons (de_str) (da_cons (de_int) (da_nil)))) (da_cons (de_tup (da_cons (de_str) (da_cons (de_int) (da_cons (de_int) (da_nil))))) (da_cons (de_tup (da_cons (de_str) (da_cons (de_int) (da_nil)))) (da_nil))))))) (da_cons (de_tup (da_cons (de_str) (da_cons (de_int) (da_cons (de_int) (da_nil))))) (da_nil))))) (da_cons (de_tup (da_cons (de_str) (da_cons (de_lst (da_cons (de_tup (da_cons (de_str) (da_cons (de_int) (da_nil)))) (da_cons (de_tup (da_cons (de_str) (da_cons (de_int) (da_cons (de_int) (da_nil))))) (da_cons (de_tup (da_cons (de_str) (da_cons (de_int) (da_nil)))) (da_cons (de_tup (da_cons (de_str) (da_cons (de_int) (da_cons (de_int) (da_nil))))) (da_cons (de_tup (da_cons (de_str) (da_cons (de_int) (da_nil)))) (da_cons (de_tup (da_cons (de_str) (da_cons (de_int) (da_cons (de_int) (da_nil))))) (da_cons (de_tup (da_cons (de_str) (da_cons (de_int) (da_nil)))) (da_nil))))))))) (da_cons (de_tup (da_cons (de_str) (da_cons (de_int) (da_cons (de_int) (da_nil))))) (da_nil))))) (da_cons (de_tup (da_cons (de_str) (da_cons (de_lst (da_cons (de_tup (da_cons (de_str) (da_cons (de_int) (da_nil)))) (da_cons (de_tup (da_cons (de_str) (da_cons (de_int) (da_cons (de_int) (da_nil))))) (da_cons (de_tup (da_cons (de_str) (da_cons (de_int) (da_nil)))) (da_cons (de_tup (da_cons (de_str) (da_cons (de_int) (da_nil)))) (da_cons (de_tup (da_cons (de_str) (da_cons (de_int) (da_cons (de_int) (da_nil))))) (da_cons (de_tup (da_cons (de_str) (da_cons (de_int) (da_nil)))) (da_nil)))))))) (da_cons (de_tup (da_cons (de_str) (da_cons (de_int) (da_cons (de_int) (da_nil))))) (da_nil))))) (da_cons (de_tup (da_cons (de_str) (da_cons (de_lst (da_cons (de_tup (da_cons (de_str) (da_cons (de_int) (da_nil)))) (da_cons (de_tup (da_cons (de_str) (da_cons (de_int) (da_cons (de_int) (da_nil))))) (da_cons (de_tup (da_cons (de_str) (da_cons (de_int) (da_nil)))) (da_cons (de_tup (da_cons (de_str) (da_cons (de_int) (da_cons (de_int) (da_nil))))) (da_nil)))))) (da_cons (de_tup (da_cons (de_str) (da_cons (de_int) (da_cons (de_int) (da_nil))))) (da_nil))))) (da_cons (de_tup (da_cons (de_str) (da_cons (de_lst (da_cons (de_tup (da_cons (de_str) (da_cons (de_int) (da_nil)))) (da_cons (de_tup (da_cons (de_str) (da_cons (de_int) (da_cons (de_int) (da_nil))))) (da_cons (de_tup (da_cons (de_str) (da_cons (de_int) (da_nil)))) (da_cons (de_tup (da_cons (de_str) (da_cons (de_int) (da_cons (de_int) (da_nil))))) (da_cons (de_tup (da_cons (de_str) (da_cons (de_int) (da_nil)))) (da_cons (de_tup (da_cons (de_str) (da_cons (de_int) (da_cons (de_int) (da_nil))))) (da_nil)))))))) (da_cons (de_tup (da_cons (de_str) (da_cons (de_int) (da_cons (de_int) (da_nil))))) (da_nil))))) (da_cons (de_tup (da_cons (de_str) (da_cons (de_lst (da_cons (de_tup (da_cons (de_str) (da_cons (de_int) (da_nil)))) (da_cons (de_tup (da_cons (de_str) (da_cons (de_int) (da_cons (de_int) (da_nil))))) (da_cons (de_tup (da_cons (de_str) (da_cons (de_int) (da_nil)))) (da_cons (de_tup (da_cons (de_str) (da_cons (de_int) (da_cons (de_int) (da_nil))))) (da_nil)))))) (da_cons (de_tup (da_cons (de_str) (da_cons (de_int) (da_cons (de_int) (da_nil))))) (da_nil))))) (da_cons (de_tup (da_cons (de_str) (da_cons (de_lst (da_cons (de_tup (da_cons (de_str) (da_cons (de_int) (da_cons (de_int) (da_nil))))) (da_nil))) (da_cons (de_tup (da_cons (de_str) (da_cons (de_int) (da_cons (de_int) (da_nil))))) (da_nil))))) (da_cons (de_tup (da_cons (de_str) (da_cons (de_lst (da_cons (de_tup (da_cons (de_str) (da_cons (de_int) (da_cons (de_int) (da_nil))))) (da_nil))) (da_cons (de_tup (da_cons (de_str) (da_cons (de_int) (da_cons (de_int) (da_nil))))) (da_nil))))) (da_cons (de_tup (da_cons (de_str) (da_cons (de_lst (da_cons (de_tup (da_cons (de_str) (da_cons (de_int) (da_cons (de_int) (da_nil))))) (da_cons (de_tup (da_cons (de_str) (da_cons (de_int) (da_cons (de_int) (da_nil))))) (da_nil)))) (da_cons (de_tup (da_cons (de_str) (da_cons (de_int) (da_cons (de_int) (da_nil))))) (da_nil))))) (da_cons (de_tup (da_cons (de_str) (da_cons (de_lst (da_cons (de_tup (da_cons (de_str) (da_cons (de_int) (da_cons (de_int) (da_nil))))) (da_nil))) (da_cons (de_tup (da_cons (de_str) (da_cons (de_int) (da_cons (de_int) (da_nil))))) (da_nil))))) (da_cons (de_tup (da_cons (de_str) (da_cons (de_lst (da_cons (de_tup (da_cons (de_str) (da_cons (de_int) (da_cons (de_int) (da_nil))))) (da_nil))) (da_cons (de_tup (da_cons (de_str) (da_cons (de_int) (da_cons (de_int) (da_nil))))) (da_nil))))) (da_cons (de_tup (da_cons (de_str) (da_cons (de_lst (da_cons (de_tup (da_cons (de_str) (da_cons (de_int) (da_cons (de_int) (da_nil))))) (da_nil))) (da_cons (de_tup (da_cons (de_str) (da_cons (de_int) (da_nil)))) (da_nil))))) (da_cons (de_tup (da_cons (de_str) (da_cons (de_lst (da_cons (de_tup (da_cons (de_str) (da_cons (de_int) (da_cons (de_int) (da_nil))))) (da_cons (de_tup (da_cons (de_str) (da_cons (de_int) (da_cons (de_int) (da_nil))))) (da_nil)))) (da_cons (de_tup (da_cons (de_str) (da_cons (de_int) (da_cons (de_int) (da_nil))))) (da_nil))))) (da_cons (de_tup (da_cons (de_str) (da_cons (de_lst (da_cons (de_tup (da_cons (de_str) (da_cons (de_int) (da_cons (de_int) (da_nil))))) (da_nil))) (da_cons (de_tup (da_cons (de_str) (da_cons (de_int) (da_cons (de_int) (da_nil))))) (da_nil))))) (da_cons (de_tup (da_cons (de_str) (da_cons (de_lst (da_cons (de_tup (da_cons (de_str) (da_cons (de_int) (da_nil)))) (da_cons (de_tup (da_cons (de_str) (da_cons (de_int) (da_cons (de_int) (da_nil))))) (da_cons (de_tup (da_cons (de_str) (da_cons (de_int) (da_cons (de_int) (da_nil))))) (da_cons (de_tup (da_cons (de_str) (da_cons (de_int) (da_nil)))) (da_nil)))))) (da_cons (de_tup (da_cons (de_str) (da_cons (de_int) (da_cons (de_int) (da_nil))))) (da_nil))))) (da_cons (de_tup (da_cons (de_str) (da_cons (de_lst (da_cons (de_tup (da_cons (de_str) (da_cons (de_int) (da_cons (de_int) (da_nil))))) (da_cons (de_tup (da_cons (de_str) (da_cons (de_int) (da_cons (de_int) (da_nil))))) (da_nil)))) (da_cons (de_tup (da_cons (de_str) (da_cons (de_int) (da_cons (de_int) (da_nil))))) (da_nil))))) (da_nil)))))))))))))))))))))
theorem q__law_known (T : Tx fx fn (ev K px) mg) : Q_ Pg w (ev K px) mg base 1 (d__law_known.at_ K) [] 0 m__law_known := by
  obtain ⟨fd, F⟩ := T.c.def_ 25 (d := d__law_known)
  exact q_mk F rfl (ok__law_known T F) (fun _ _ _ _ _ _ us hl => match us, hl with | [], _ => rfl)
theorem sc__law_shape_of : FnScope ["name", "row"] ["name"] (defScope (top 51)) := ⟨rfl, rfl, rfl, by decide +kernel, rfl, by decide +kernel, by decide +kernel⟩
theorem kp__law_shape_of (T : Tx fx fn (ev K px) mg) : PySem.W.keepIn K (.ref (d__law_shape_of.at_ K)) = true := by
  obtain ⟨fd, F⟩ := T.c.def_ 26 (d := d__law_shape_of)
  exact F.kp
theorem ok__law_shape_of (T : Tx fx fn (ev K px) mg) {fd : FuncData} (F : FunD K d__law_shape_of.name d__law_shape_of.qual d__law_shape_of.params d__law_shape_of.body d__law_shape_of.scope (d__law_shape_of.dvs K) (d__law_shape_of.kws K) (d__law_shape_of.at_ K) fd) : FnOk Pg w K mg base (L2.CX Pg w) 2 (d__law_shape_of.at_ K) fd ["name"] (spD (ev K px) 1 m__law_shape_of) :=
  ok_def (fb := b__law_shape_of) (e := ev K px) F sc__law_shape_of rfl fun cdv A outer s H E hr B =>
    ds_seq (ds_for B.pass rfl (di_seq B.hK (de_call0 (clb B (q__law_known T) (hr.mono (j := 1) (by decide))) rfl (T.glo 75) (kp__law_known T))) (dg_name (i := 1) sc__law_shape_of.nd rfl (by first | exact Or.inl rfl | exact Or.inr rfl)) (ds_one (ds_if (dt_cmp (oEq B.hK B.hu) (de_ix (xIx B.hK) (dv 1) (de_int)) (dv 0) (nomark _)) (ds_one (ds_ret (de_tup (da_cons (de_ix (xIx B.hK) (dv 1) (de_int)) (da_cons (de_ix (xIx B.hK) (dv 1) (de_int)) (da_nil)))))) (ds_nil))))
    (ds_one (ds_ret (de_tup (da_cons (de_lst (da_cons (de_tup (da_cons (de_str) (da_cons (de_int) (da_nil)))) (da_nil))) (da_cons (de_tup (da_cons (de_str) (da_cons (de_int) (da_nil)))) (da_nil))))))
theorem q__law_shape_of (T : Tx fx fn (ev K px) mg) : Q_ Pg w (ev K px) mg base 2 (d__law_shape_of.at_ K) ["name"] 1 m__law_shape_of := by
  obtain ⟨fd, F⟩ := T.c.def_ 26 (d := d__law_shape_of)
  exact q_mk F rfl (ok__law_shape_of T F) (fun _ _ _ _ _ _ us hl => match us, hl with | [_], _ => rfl)
theorem sc__law_parts_due : FnScope ["name", "shape"] ["name"] (defScope (top 57)) := ⟨rfl, rfl, rfl, by decide +kernel, rfl, by decide +kernel, by decide +kernel⟩
theorem kp__law_parts_due (T : Tx fx fn (ev K px) mg) : PySem.W.keepIn K (.ref (d__law_parts_due.at_ K)) = true := by
  obtain ⟨fd, F⟩ := T.c.def_ 27 (d := d__law_parts_due)
  exact F.kp
theorem ok__law_parts_due (T : Tx fx fn (ev K px) mg) {fd : FuncData} (F : FunD K d__law_parts_due.name d__law_parts_due.qual d__law_parts_due.params d__law_parts_due.body d__law_parts_due.scope (d__law_parts_due.dvs K) (d__law_parts_due.kws K) (d__law_parts_due.at_ K) fd) : FnOk Pg w K mg base (L2.CX Pg w) 3 (d__law_parts_due.at_ K) fd ["name"] (spD (ev K px) 1 m__law_parts_due) :=
  ok_def (fb := b__law_parts_due) (e := ev K px) F sc__law_parts_due rfl fun cdv A outer s H E hr B =>
    ds_seq (ds_set (i := 1) sc__law_parts_due.nd rfl (by first | exact Or.inl rfl | exact Or.inr rfl) (de_call (clb B (q__law_shape_of T) (hr.mono (j := 2) (by decide))) rfl rfl (T.glo 76) (kp__law_shape_of T) (da_cons (dv 0) (da_nil))))
    (ds_one (ds_ret (de_tup (da_cons (dv 0) (da_cons (de_callTy (bTuple B.hK) rfl (T.free 7) (by decide +kernel) (da_cons (de_ix (xIx B.hK) (dv 1) (de_int)) (da_nil))) (da_cons (de_ix (xIx B.hK) (dv 1) (de_int)) (da_nil)))))))
theorem q__law_parts_due (T : Tx fx fn (ev K px) mg) : Q_ Pg w (ev K px) mg base 3 (d__law_parts_due.at_ K) ["name"] 1 m__law_parts_due := by
  obtain ⟨fd, F⟩ := T.c.def_ 27 (d := d__law_parts_due)
  exact q_mk F rfl (ok__law_parts_due T F) (fun _ _ _ _ _ _ us hl => match us, hl with | [_], _ => rfl)
theorem sc__law_lot_due : FnScope ["names", "name"] ["names"] (defScope (top 58)) := ⟨rfl, rfl, rfl, by decide +kernel, rfl, by decide +kernel, by decide +kernel⟩
theorem kp__law_lot_due (T : Tx fx fn (ev K px) mg) : PySem.W.keepIn K (.ref (d__law_lot_due.at_ K)) = true := by
  obtain ⟨fd, F⟩ := T.c.def_ 28 (d := d__law_lot_due)
  exact F.kp
theorem ok__law_lot_due (T : Tx fx fn (ev K px) mg) {fd : FuncData} (F : FunD K d__law_lot_due.name d__law_lot_due.qual d__law_lot_due.params d__law_lot_due.body d__law_lot_due.scope (d__law_lot_due.dvs K) (d__law_lot_due.kws K) (d__law_lot_due.at_ K) fd) : FnOk Pg w K mg base (L2.CX Pg w) 4 (d__law_lot_due.at_ K) fd ["names"] (spD (ev K px) 1 m__law_lot_due) :=
  ok_def (fb := b__law_lot_due) (e := ev K px) F sc__law_lot_due rfl fun cdv A outer s H E hr B =>
    ds_one (ds_ret (de_tup (da_cons (de_str) (da_cons (de_lc (own := [("name", 1)]) B rfl sc__law_lot_due.nd (di_seq B.hK (de_call0 (clb B (q__law_ten T) (hr.mono (j := 1) (by decide))) rfl (T.glo 77) (kp__law_ten T))) (by kernel_rfl) (fun s1 H1 C1 cl1 fp1 B => dgx_name (i := 1) sc__law_lot_due.nd rfl (by first | exact Or.inl rfl | exact Or.inr rfl)) (fun s1 H1 C1 cl1 fp1 B => dts_one (dt_cmp (oIn B.hK B.hu) (dv 1) (dv 0) rfl)) (fun s1 H1 C1 cl1 fp1 B => de_call (clb B (q__law_parts_due T) (hr.mono (j := 3) (by decide))) rfl rfl (T.glo 78) (kp__law_parts_due T) (da_cons (dv 1) (da_nil)))) (da_nil)))))
theorem q__law_lot_due (T : Tx fx fn (ev K px) mg) : Q_ Pg w (ev K px) mg base 4 (d__law_lot_due.at_ K) ["names"] 1 m__law_lot_due := by
  obtain ⟨fd, F⟩ := T.c.def_ 28 (d := d__law_lot_due)
  exact q_mk F rfl (ok__law_lot_due T F) (fun _ _ _ _ _ _ us hl => match us, hl with | [_], _ => rfl)
theorem sc_rule_promise : FnScope ["rule"] ["rule"] (defScope (top 44)) := ⟨rfl, rfl, rfl, by decide +kernel, rfl, by decide +kernel, by decide +kernel⟩
theorem kp_rule_promise (T : Tx fx fn (ev K px) mg) : PySem.W.keepIn K (.ref (d_rule_promise.at_ K)) = true := by
  obtain ⟨fd, F⟩ := T.c.def_ 29 (d := d_rule_promise)
  exact F.kp
theorem ok_rule_promise (T : Tx fx fn (ev K px) mg) (TB : TabsX w K tbs) {fd : FuncData} (F : FunD K d_rule_promise.name d_rule_promise.qual d_rule_promise.params d_rule_promise.body d_rule_promise.scope (d_rule_promise.dvs K) (d_rule_promise.kws K) (d_rule_promise.at_ K) fd) : FnOk Pg w K mg base (L2.CX Pg w) 8 (d_rule_promise.at_ K) fd ["rule"] (spD (ev K px) 1 m_rule_promise) :=
  ok_def (fb := b_rule_promise) (e := ev K px) F sc_rule_promise rfl fun cdv A outer s H E hr B =>
    ds_seq (ds_expr (de_call (clb B (q_check_rules T) (hr.mono (j := 2) (by decide))) rfl rfl (T.glo 65) (kp_check_rules T) (da_cons (de_lst (da_cons (dv 0) (da_nil))) (da_nil))))
    (ds_one (ds_ret (de_call (clb B (q_known T TB) (hr.mono (j := 7) (by decide))) rfl rfl (T.glo 67) (kp_known T) (da_cons (dv 0) (da_nil)))))
theorem q_rule_promise (T : Tx fx fn (ev K px) mg) (TB : TabsX w K tbs) : Q_ Pg w (ev K px) mg base 8 (d_rule_promise.at_ K) ["rule"] 1 m_rule_promise := by
  obtain ⟨fd, F⟩ := T.c.def_ 29 (d := d_rule_promise)
  exact q_mk F rfl (ok_rule_promise T TB F) (fun _ _ _ _ _ _ us hl => match us, hl with | [_], _ => rfl)
theorem sc__law_promise_told : FnScope ["name", "promise", "e", "base"] ["name"] (defScope (top 56)) := ⟨rfl, rfl, rfl, by decide +kernel, rfl, by decide +kernel, by decide +kernel⟩
theorem kp__law_promise_told (T : Tx fx fn (ev K px) mg) : PySem.W.keepIn K (.ref (d__law_promise_told.at_ K)) = true := by
  obtain ⟨fd, F⟩ := T.c.def_ 30 (d := d__law_promise_told)
  exact F.kp
theorem ok__law_promise_told (T : Tx fx fn (ev K px) mg) (TB : TabsX w K tbs) {fd : FuncData} (F : FunD K d__law_promise_told.name d__law_promise_told.qual d__law_promise_told.params d__law_promise_told.body d__law_promise_told.scope (d__law_promise_told.dvs K) (d__law_promise_told.kws K) (d__law_promise_told.at_ K) fd) : FnOk Pg w K mg base (L2.CX Pg w) 9 (d__law_promise_told.at_ K) fd ["name"] (spD (ev K px) 1 m__law_promise_told) :=
  ok_def (fb := b__law_promise_told) (e := ev K px) F sc__law_promise_told rfl fun cdv A outer s H E hr B =>
    ds_seq (ds_try_as B rfl rfl sc__law_promise_told.nd (i := 2) rfl rfl ⟨rfl, by decide, .inl (T.glo 58)⟩ (T.tb (c := 8) 73) (fun W2 pn xe B => ds_one (ds_set (i := 1) sc__law_promise_told.nd rfl (by first | exact Or.inl rfl | exact Or.inr rfl) (de_call (clb B (q_rule_promise T TB) (hr.mono (j := 8) (by decide))) rfl rfl (T.glo 79) (kp_rule_promise T) (da_cons (dv 0) (da_nil))))) (fun p oe cls dx pn hz hf B => have T : Tx fx fn (ev K (pxOf p cls dx)) mg := T.at_ _; ds_seq (ds_set (i := 3) sc__law_promise_told.nd rfl (by first | exact Or.inl rfl | exact Or.inr rfl) (de_and (de_isE B (T.isi0 0) (allx T) rfl (T.free 5) rfl (by first | exact Or.inl rfl | exact Or.inr (Or.inl rfl) | exact Or.inr (Or.inr rfl)) (de_gref (n := 0) (T.glo 71))) (de_one (de_isE B (T.isi0 0) (allx T) rfl (T.free 5) rfl (by first | exact Or.inl rfl | exact Or.inr (Or.inl rfl) | exact Or.inr (Or.inr rfl)) (de_gty (T.free 72))))))
    (ds_one (ds_ret (de_tup (da_cons (de_str) (da_cons (de_xf (fl := 37) B rfl (all2 (xf_of (T.pr 18)) (xf_of (T.pr 57))) rfl (by first | exact Or.inl rfl | exact Or.inr (Or.inl rfl) | exact Or.inr (Or.inr rfl))) (da_cons (de_and (dv 3) (de_one (de_not (de_isE B (T.isi0 0) (allx T) rfl (T.free 5) rfl (by first | exact Or.inl rfl | exact Or.inr (Or.inl rfl) | exact Or.inr (Or.inr rfl)) (de_gref (n := 13) (T.glo 19)))))) (da_nil)))))))))
    (ds_one (ds_ret (de_tup (da_cons (de_str) (da_cons (de_call (clb B (q__law_parts T) (hr.mono (j := 1) (by decide))) rfl rfl (T.glo 74) (kp__law_parts T) (da_cons (dv 1) (da_nil))) (da_nil))))))
theorem q__law_promise_told (T : Tx fx fn (ev K px) mg) (TB : TabsX w K tbs) : Q_ Pg w (ev K px) mg base 9 (d__law_promise_told.at_ K) ["name"] 1 m__law_promise_told := by
  obtain ⟨fd, F⟩ := T.c.def_ 30 (d := d__law_promise_told)
  exact q_mk F rfl (ok__law_promise_told T TB F) (fun _ _ _ _ _ _ us hl => match us, hl with | [_], _ => rfl)
theorem sc_law : FnScope ["script", "draws", "ten", "names", "menu", "bad", "other", "place", "spoilt", "lot", "name", "k", "promise"] ["script"] (defScope (top 59)) := ⟨rfl, rfl, rfl, by decide +kernel, rfl, by decide +kernel, by decide +kernel⟩
theorem kp_law (T : Tx fx fn (ev K px) mg) : PySem.W.keepIn K (.ref (d_law.at_ K)) = true := by
  obtain ⟨fd, F⟩ := T.c.def_ 31 (d := d_law)
  exact F.kp
theorem ok_law (T : Tx fx fn (ev K px) mg) (TB : TabsX w K tbs) {fd : FuncData} (F : FunD K d_law.name d_law.qual d_law.params d_law.body d_law.scope (d_law.dvs K) (d_law.kws K) (d_law.at_ K) fd) : FnOk Pg w K mg base (L2.CX Pg w) 11 (d_law.at_ K) fd ["script"] (spD (ev K px) 1 m_law) :=
  ok_def (fb := b_law) (e := ev K px) F sc_law rfl fun cdv A outer s H E hr B =>
    ds_seq (ds_set (i := 1) sc_law.nd rfl (by first | exact Or.inl rfl | exact Or.inr rfl) (de_call (clb B (q__law_start T) (hr.mono (j := 1) (by decide))) rfl rfl (T.glo 80) (kp__law_start T) (da_cons (dv 0) (da_nil))))
    (ds_seq (ds_set (i := 2) sc_law.nd rfl (by first | exact Or.inl rfl | exact Or.inr rfl) (de_call0 (clb B (q__law_ten T) (hr.mono (j := 1) (by decide))) rfl (T.glo 77) (kp__law_ten T)))
    (ds_seq (ds_setLc (i := 3) (own := [("k", 11)]) B rfl sc_law.nd rfl rfl (di_range1 rfl (T.free 8) (da_cons (de_call (clb B (q__law_draw T) (hr.mono (j := 1) (by decide))) rfl rfl (T.glo 81) (kp__law_draw T) (da_cons (dv 1) (da_cons (de_int) (da_nil)))) (da_nil))) (by kernel_rfl) (fun s1 H1 C1 cl1 fp1 B => dgx_name (i := 11) sc_law.nd rfl (by first | exact Or.inl rfl | exact Or.inr rfl)) (fun s1 H1 C1 cl1 fp1 B => dts_nil) (fun s1 H1 C1 cl1 fp1 B => de_ix (xIx B.hK) (dv 2) (de_call (clb B (q__law_draw T) (hr.mono (j := 1) (by decide))) rfl rfl (T.glo 81) (kp__law_draw T) (da_cons (dv 1) (da_cons (de_int) (da_nil))))))
    (ds_seq (ds_set (i := 4) sc_law.nd rfl (by first | exact Or.inl rfl | exact Or.inr rfl) (de_lst (da_cons (de_str) (da_cons (de_str) (da_cons (de_str) (da_cons (de_str) (da_cons (de_str) (da_cons (de_str) (da_cons (de_str) (da_cons (de_str) (da_nil)))))))))))
    (ds_seq (ds_set (i := 5) sc_law.nd rfl (by first | exact Or.inl rfl | exact Or.inr rfl) (de_ix (xIx B.hK) (dv 4) (de_call (clb B (q__law_draw T) (hr.mono (j := 1) (by decide))) rfl rfl (T.glo 81) (kp__law_draw T) (da_cons (dv 1) (da_cons (de_int) (da_nil))))))
    (ds_seq (ds_set (i := 6) sc_law.nd rfl (by first | exact Or.inl rfl | exact Or.inr rfl) (de_ix (xIx B.hK) (dv 4) (de_call (clb B (q__law_draw T) (hr.mono (j := 1) (by decide))) rfl rfl (T.glo 81) (kp__law_draw T) (da_cons (dv 1) (da_cons (de_int) (da_nil))))))
    (ds_seq (ds_set (i := 7) sc_law.nd rfl (by first | exact Or.inl rfl | exact Or.inr rfl) (de_call (clb B (q__law_draw T) (hr.mono (j := 1) (by decide))) rfl rfl (T.glo 81) (kp__law_draw T) (da_cons (dv 1) (da_cons (de_bin (oAdd B.hK) (de_callB (bLen B.hK) rfl (T.free 2) (by decide +kernel) (da_cons (dv 3) (da_nil))) (de_int)) (da_nil)))))
    (ds_seq (ds_set (i := 8) sc_law.nd rfl (by first | exact Or.inl rfl | exact Or.inr rfl) (de_bin (oAdd B.hK) (de_bin (oAdd B.hK) (de_bin (oAdd B.hK) (de_slice B.hK (dv 3) (do_none) (do_some (dv 7))) (de_lst (da_cons (dv 5) (da_nil)))) (de_slice B.hK (dv 3) (do_some (dv 7)) (do_none))) (de_lst (da_cons (dv 6) (da_nil)))))
    (ds_seq (ds_if (dt_not (dt_tru B.hK (de_call (clb B (q__law_same T 7) (hr.mono (j := 7) (by decide))) rfl rfl (T.glo 9) (kp__law_same T) (da_cons (de_gcon (T.glo 64) (T.pr 63)) (da_cons (de_callTy (bTuple B.hK) rfl (T.free 7) (by decide +kernel) (da_cons (dv 2) (da_nil))) (da_nil)))))) (ds_one (ds_ret (de_bl))) (ds_nil))
    (ds_seq (ds_if (dt_not (dt_tru B.hK (de_call (clb B (q__law_same T 7) (hr.mono (j := 7) (by decide))) rfl rfl (T.glo 9) (kp__law_same T) (da_cons (de_call (clb B (q__law_lot_told T TB) (hr.mono (j := 10) (by decide))) rfl rfl (T.glo 82) (kp__law_lot_told T) (da_cons (dv 3) (da_nil))) (da_cons (de_call (clb B (q__law_lot_due T) (hr.mono (j := 4) (by decide))) rfl rfl (T.glo 83) (kp__law_lot_due T) (da_cons (dv 3) (da_nil))) (da_nil)))))) (ds_one (ds_ret (de_bl))) (ds_nil))
    (ds_seq (ds_if (dt_not (dt_tru B.hK (de_call (clb B (q__law_same T 7) (hr.mono (j := 7) (by decide))) rfl rfl (T.glo 9) (kp__law_same T) (da_cons (de_call (clb B (q__law_lot_told T TB) (hr.mono (j := 10) (by decide))) rfl rfl (T.glo 82) (kp__law_lot_told T) (da_cons (dv 8) (da_nil))) (da_cons (de_tup (da_cons (de_str) (da_cons (dv 5) (da_cons (de_bl) (da_nil))))) (da_nil)))))) (ds_one (ds_ret (de_bl))) (ds_nil))
    (ds_seq (ds_if (dt_not (dt_tru B.hK (de_call (clb B (q__law_same T 7) (hr.mono (j := 7) (by decide))) rfl rfl (T.glo 9) (kp__law_same T) (da_cons (de_call (clb B (q__law_lot_told T TB) (hr.mono (j := 10) (by decide))) rfl rfl (T.glo 82) (kp__law_lot_told T) (da_cons (de_rev B.hK (dv 3)) (da_nil))) (da_cons (de_call (clb B (q__law_lot_due T) (hr.mono (j := 4) (by decide))) rfl rfl (T.glo 83) (kp__law_lot_due T) (da_cons (dv 3) (da_nil))) (da_nil)))))) (ds_one (ds_ret (de_bl))) (ds_nil))
    (ds_seq (ds_set (i := 9) sc_law.nd rfl (by first | exact Or.inl rfl | exact Or.inr rfl) (de_callS (clbS B (q_rule_lot T TB) (hr.mono (by decide))) rfl (T.glo 69) (kp_rule_lot T) (da_cons (de_str) (da_cons (de_str) (da_cons (de_str) (da_cons (de_str) (da_cons (de_str) (da_cons (de_str) (da_cons (de_str) (da_cons (de_str) (da_cons (de_str) (da_cons (de_str) (da_nil)))))))))))))
    (ds_seq (ds_if (dt_not (dt_tru B.hK (de_call (clb B (q__law_same T 7) (hr.mono (j := 7) (by decide))) rfl rfl (T.glo 9) (kp__law_same T) (da_cons (de_tup (da_cons (de_str) (da_cons (de_lc (own := [("promise", 12)]) B rfl sc_law.nd (di_iterO B (itf_Lot T) (hr.mono (by decide)) (dv 9)) (by kernel_rfl) (fun s1 H1 C1 cl1 fp1 B => dgx_name (i := 12) sc_law.nd rfl (by first | exact Or.inl rfl | exact Or.inr rfl)) (fun s1 H1 C1 cl1 fp1 B => dts_nil) (fun s1 H1 C1 cl1 fp1 B => de_call (clb B (q__law_parts T) (hr.mono (j := 1) (by decide))) rfl rfl (T.glo 74) (kp__law_parts T) (da_cons (dv 12) (da_nil)))) (da_nil)))) (da_cons (de_call (clb B (q__law_lot_due T) (hr.mono (j := 4) (by decide))) rfl rfl (T.glo 83) (kp__law_lot_due T) (da_cons (dv 2) (da_nil))) (da_nil)))))) (ds_one (ds_ret (de_bl))) (ds_nil))
    (ds_seq (ds_for B.pass rfl (di_seq B.hK (de_bin (oAdd B.hK) (dv 2) (dv 3))) (dg_name (i := 10) sc_law.nd rfl (by first | exact Or.inl rfl | exact Or.inr rfl)) (ds_seq (ds_if (dt_not (dt_tru B.hK (de_call (clb B (q__law_same T 7) (hr.mono (j := 7) (by decide))) rfl rfl (T.glo 9) (kp__law_same T) (da_cons (de_call (clb B (q__law_promise_told T TB) (hr.mono (j := 9) (by decide))) rfl rfl (T.glo 84) (kp__law_promise_told T) (da_cons (dv 10) (da_nil))) (da_cons (de_tup (da_cons (de_str) (da_cons (de_call (clb B (q__law_parts_due T) (hr.mono (j := 3) (by decide))) rfl rfl (T.glo 78) (kp__law_parts_due T) (da_cons (dv 10) (da_nil))) (da_nil)))) (da_nil)))))) (ds_one (ds_ret (de_bl))) (ds_nil))
    (ds_one (ds_if (dt_not (dt_tru B.hK (de_call (clb B (q__law_same T 7) (hr.mono (j := 7) (by decide))) rfl rfl (T.glo 9) (kp__law_same T) (da_cons (de_call (clb B (q__law_lot_told T TB) (hr.mono (j := 10) (by decide))) rfl rfl (T.glo 82) (kp__law_lot_told T) (da_cons (de_lst (da_cons (dv 10) (da_nil))) (da_nil))) (da_cons (de_call (clb B (q__law_lot_due T) (hr.mono (j := 4) (by decide))) rfl rfl (T.glo 83) (kp__law_lot_due T) (da_cons (de_lst (da_cons (dv 10) (da_nil))) (da_nil))) (da_nil)))))) (ds_one (ds_ret (de_bl))) (ds_nil)))))
    (ds_seq (ds_for B.pass rfl (di_seq B.hK (de_lst (da_cons (dv 5) (da_cons (dv 6) (da_nil))))) (dg_name (i := 10) sc_law.nd rfl (by first | exact Or.inl rfl | exact Or.inr rfl)) (ds_one (ds_if (dt_not (dt_tru B.hK (de_call (clb B (q__law_same T 7) (hr.mono (j := 7) (by decide))) rfl rfl (T.glo 9) (kp__law_same T) (da_cons (de_call (clb B (q__law_promise_told T TB) (hr.mono (j := 9) (by decide))) rfl rfl (T.glo 84) (kp__law_promise_told T) (da_cons (dv 10) (da_nil))) (da_cons (de_tup (da_cons (de_str) (da_cons (dv 10) (da_cons (de_bl) (da_nil))))) (da_nil)))))) (ds_one (ds_ret (de_bl))) (ds_nil))))
    (ds_one (ds_ret (de_bl))))))))))))))))))
theorem q_law (T : Tx fx fn (ev K px) mg) (TB : TabsX w K tbs) : Q_ Pg w (ev K px) mg base 11 (d_law.at_ K) ["script"] 1 m_law := by
  obtain ⟨fd, F⟩ := T.c.def_ 31 (d := d_law)
  exact q_mk F rfl (ok_law T TB F) (fun _ _ _ _ _ _ us hl => match us, hl with | [_], _ => rfl)
end
def loose0 : List Str := ["_wall", "PromiseError", "OutOfBounds", "UnknownName", "InvalidPromise", "InvalidText", "DuplicateName", "CAPITALS", "lines_of", "RELATIONS", "NEVER", "LETTERS", "is_mark", "is_place", "is_atom", "places_of", "format_atom", "letter_number", "parse_atom", "MOST_EVENTS", "MOST_ATOMS", "MOST_NAME", "SMALL_LETTERS", "is_name", "size_of", "Promise", "promise_parts", "LINES", "KNOWN", "known"]
def loose1 : List Str := ["repeated_name", "Lot", "lot_of", "with_promise", "RULES", "check_rules", "in_order", "rule_promise", "rule_lot", "_law_start", "_law_draw", "_law_same", "_law_known", "_law_shape_of", "_law_ten", "_law_rule_lot", "_law_parts", "_law_lot_told", "_law_promise_told", "_law_parts_due", "_law_lot_due"]
def loose : List Str := loose0 ++ loose1
end Pk62

/-! the law k62: the end -/
namespace Pk62
open PySem PySem.Spec PyProof.Rows L2 PD
abbrev RR : PySem.W.OpenRow := PySem.W.OpenLaw.row PySem.Challenge.rw_promiseshapes_k62_rules_and_promises
abbrev hk : PySem.W.Hook := hookXT 5 nm fx fn tbs
def ob (s : PySem.W.SharedT) : AlX := obsXTG 5 nm fx fn tbs (HandSHeadRun.getT s)
theorem ob_eq (s : PySem.W.SharedT) : ob s = hk.obs s.abs := obsXTG_eq (HandSHeadRun.getT_eq s)
theorem runT (w : World) : HandSHeadRun.RunEq RR (PySem.W.view RR.prog [59]) hk ob 12000 loose (wB w true) := by
  intro os
  kernel_rfl
theorem runF (w : World) : HandSHeadRun.RunEq RR (PySem.W.view RR.prog [59]) hk ob 12000 loose (wB w false) := by
  intro os
  kernel_rfl
theorem run (w : World) : HandSHeadRun.RunEq RR (PySem.W.view RR.prog [59]) hk ob 12000 loose w := by_wB (P := fun w => HandSHeadRun.RunEq RR (PySem.W.view RR.prog [59]) hk ob 12000 loose w) runT runF w
theorem at_law {w : World} {K : PySem.W.Frag} {mg : Str → Option Value} {h : Heap} {f : Addr} (X : K.In h) (G : h.Ns mainGlobals mg) (hfa : mg ("law" : Str) = some (.ref f)) (c : SaysX nm fx fn K) (TB : TabsX w K tbs) : LamX.LawAtS PySem.Challenge.rw_promiseshapes_k62_rules_and_promises w K (L2.CX (PySem.Challenge.rw_promiseshapes_k62_rules_and_promises).prog w) 11 63 "script" mg f h := by
  have T : Tx fx fn (ev K fun _ _ _ => False) mg := ⟨⟨h, X, G⟩, c⟩
  obtain ⟨fd, F⟩ := T.c.def_ 31 (d := d_law)
  cases hfa.symm.trans (T.glo 92 (x := "law"))
  have b := FunD.bindsA (ps := ["script"]) F fun _ _ _ _ _ _ us hl => match us, hl with | [_], _ => rfl
  exact ⟨fd, [], _, nofun, nofun, nofun, fun s v => b s [v] rfl, fun H a ns hl hb _ hS => sp_law (law_ok ns hl hb) hS, fun base _ _ _ => ok_law T TB F⟩
end Pk62
open PySem PySem.W PySem.Calls PyProof.Rows
theorem PySem.Challenge.cw_promiseshapes_k62_rules_and_promises_holds : PySem.Challenge.rw_promiseshapes_k62_rules_and_promises.Holds := by
  w_on; o_law
  refine HandSHeadRun.head_any (r := OpenLaw.row PySem.Challenge.rw_promiseshapes_k62_rules_and_promises) (q := view (OpenLaw.row PySem.Challenge.rw_promiseshapes_k62_rules_and_promises).prog [59]) (H := Pk62.hk) (ob := Pk62.ob) (M := 12000) (loose := Pk62.loose) (d := HandSHeadRun.topDef (OpenLaw.row PySem.Challenge.rw_promiseshapes_k62_rules_and_promises).prog 59) (kwd := []) Pk62.ob_eq
    (by kernel_rfl) (fun s => by kernel_rfl) Pk62.run (by kernel_rfl) (by kernel_rfl) (by kernel_rfl) (by rfl) (by first | assumption | decide +kernel) (by decide +kernel) ⟨rfl, rfl, rfl, rfl, rfl, by decide +kernel⟩ ?hw ?hc
  case hw => w_witness2
  case hc =>
    refine LamX.walk_ofTsE (l := PySem.Challenge.rw_promiseshapes_k62_rules_and_promises) (n := 63) (k := 11) (x := "script") (CX := fun w => L2.CX (PySem.Challenge.rw_promiseshapes_k62_rules_and_promises).prog w) rfl (by decide) (by kernel_rfl) ⟨rfl, by decide, by decide⟩ ?F (fun w H s e s' z => PD.cx_end z)
    intro w mg fa h Y G hmg0
    obtain ⟨K, KX, c, TB⟩ := Y
    have hmg : mg ("law" : PySem.Str) = some (.ref fa) := by
      have e : (HandSHeadRun.topDef (OpenLaw.row PySem.Challenge.rw_promiseshapes_k62_rules_and_promises).prog 59).name = ("law" : PySem.Str) := by kernel_rfl
      rw [← e]
      exact hmg0
    exact ⟨K, KX, Pk62.at_law KX G hmg c TB⟩

