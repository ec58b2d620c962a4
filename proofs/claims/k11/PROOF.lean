import PyProof.Rows.All
import Wide.All
import OpenK.AllK
import Wide.FinOn
import HandS.ForMost
import HandS.Exc
import HandS.ExcOwn
import HandS.WordsExc
import HandS.ExcInit
import HandS.ExcField
import HandS.TryMany
import HandS.IsInst
import HandS.Wide
import HandS.Defaults
import HandS.Lambda
import HandS.EndTab
import HandS.TupAny
import HandS.TupMul
import HandS.Style
import HandS.Rev
import HandS.RevRange
import HandS.Zip
import HandS.Iter
import HandS.Dict
import HandS.RevTup
import KE.KRevSl
import PyProof.ReprRoads
import KE.GoesEnum
import HandS.MakeKwOnly
import PyProof.InstStoreFacts
import HandS.EndBits
import HandS.Small
import PySem.Challenge.RW_withintwo_k11_polynomials_and_fractions
import PyProof.StrLawsRepr
import PyProof.Rows.StrJoinMade
import HandS.ExcIs
import KE.KNestM
set_option Elab.async false
set_option linter.all false
set_option maxRecDepth 100000
set_option maxHeartbeats 4000000
namespace DL
open PySem PySem.Spec PyProof.Rows L2

abbrev D := PyData
def kD : Key → D
  | .inl i => .int i
  | .inr x => .str x

mutual
def Rdd (K : PySem.W.Frag) (S : Addr → Prop) (H : Hp) : D → V → Prop
  | .none, v => v = .non
  | .bool b, v => v = .bl b
  | .int i, v => v = .int i
  | .str x, v => v = .str x
  | .tuple ds, v => ∃ a vs, v = .ref a ∧ SqT K H a vs ∧ RdL K S H ds vs
  | .list ds, v => ∃ a vs, v = .ref a ∧ S a ∧ H a = some (.lst vs) ∧ RdL K S H ds vs
  | .dict kvs, v => ∃ a ps, v = .ref a ∧ S a ∧ H a = some (.dK ps) ∧ RdK K S H kvs ps
def RdL (K : PySem.W.Frag) (S : Addr → Prop) (H : Hp) : List D → List V → Prop
  | [], vs => vs = []
  | d :: ds, vs => ∃ v r, vs = v :: r ∧ Rdd K S H d v ∧ RdL K S H ds r
def RdK (K : PySem.W.Frag) (S : Addr → Prop) (H : Hp) : List (D × D) → List (Key × V) → Prop
  | [], ps => ps = []
  | (k, d) :: r, ps => ∃ key v rest, ps = (key, v) :: rest ∧ k = kD key ∧ Rdd K S H d v ∧ RdK K S H r rest
end
section
variable {K : PySem.W.Frag} {S S' : Addr → Prop} {H H' : Hp}
mutual
theorem Rdd.keep (hS : ∀ a, S a → S' a) (hT : ∀ a vs, SqT K H a vs → SqT K H' a vs) (hL : ∀ a o, S a → H a = some o → H' a = some o) :
    ∀ (d : D) (v : V), Rdd K S H d v → Rdd K S' H' d v
  | .none, _, h => h
  | .bool _, _, h => h
  | .int _, _, h => h
  | .str _, _, h => h
  | .tuple ds, _, ⟨a, vs, e, ht, hr⟩ => ⟨a, vs, e, hT _ _ ht, RdL.keep hS hT hL ds vs hr⟩
  | .list ds, _, ⟨a, vs, e, hs, ha, hr⟩ => ⟨a, vs, e, hS _ hs, hL _ _ hs ha, RdL.keep hS hT hL ds vs hr⟩
  | .dict kvs, _, ⟨a, ps, e, hs, ha, hr⟩ => ⟨a, ps, e, hS _ hs, hL _ _ hs ha, RdK.keep hS hT hL kvs ps hr⟩
theorem RdL.keep (hS : ∀ a, S a → S' a) (hT : ∀ a vs, SqT K H a vs → SqT K H' a vs) (hL : ∀ a o, S a → H a = some o → H' a = some o) :
    ∀ (ds : List D) (vs : List V), RdL K S H ds vs → RdL K S' H' ds vs
  | [], _, h => h
  | d :: ds, _, ⟨v, r, e, h1, h2⟩ => ⟨v, r, e, Rdd.keep hS hT hL d v h1, RdL.keep hS hT hL ds r h2⟩
theorem RdK.keep (hS : ∀ a, S a → S' a) (hT : ∀ a vs, SqT K H a vs → SqT K H' a vs) (hL : ∀ a o, S a → H a = some o → H' a = some o) :
    ∀ (ds : List (D × D)) (ps : List (Key × V)), RdK K S H ds ps → RdK K S' H' ds ps
  | [], _, h => h
  | (_, d) :: r, _, ⟨key, v, rest, e, ek, h1, h2⟩ => ⟨key, v, rest, e, ek, Rdd.keep hS hT hL d v h1, RdK.keep hS hT hL r rest h2⟩
end
theorem RdL.len : ∀ {ds : List D} {vs : List V}, RdL K S H ds vs → vs.length = ds.length
  | [], _, h => by rw [show _ = [] from h]; rfl
  | _ :: ds, _, ⟨v, r, e, _, h2⟩ => by rw [e, List.length_cons, List.length_cons, RdL.len (ds := ds) h2]
theorem RdL.get : ∀ {ds : List D} {vs : List V} {i : Nat} {d : D}, RdL K S H ds vs → ds[i]? = some d → ∃ v, vs[i]? = some v ∧ Rdd K S H d v
  | [], _, _, _, _, e => by simp at e
  | d :: ds, _, 0, d', ⟨v, r, e, h1, _⟩, e' => by
    simp at e'; subst e'; exact ⟨v, by rw [e]; rfl, h1⟩
  | _ :: ds, _, i + 1, d', ⟨v, r, e, _, h2⟩, e' => by
    obtain ⟨u, hu, hr⟩ := RdL.get (ds := ds) (i := i) (d := d') h2 (by simpa using e')
    exact ⟨u, by rw [e]; simpa using hu, hr⟩
theorem RdL.getV : ∀ {ds : List D} {vs : List V} {i : Nat} {v : V}, RdL K S H ds vs → vs[i]? = some v → ∃ d, ds[i]? = some d ∧ Rdd K S H d v
  | [], _, _, _, h, e => by rw [show _ = [] from h] at e; simp at e
  | d :: ds, _, 0, v', ⟨v, r, e, h1, _⟩, e' => by
    rw [e] at e'; simp at e'; subst e'; exact ⟨d, rfl, h1⟩
  | _ :: ds, _, i + 1, v', ⟨v, r, e, _, h2⟩, e' => by
    rw [e] at e'
    obtain ⟨u, hu, hr⟩ := RdL.getV (ds := ds) (i := i) (v := v') h2 (by simpa using e')
    exact ⟨u, by simpa using hu, hr⟩
theorem RdL.append : ∀ {ds es : List D} {vs us : List V}, RdL K S H ds vs → RdL K S H es us → RdL K S H (ds ++ es) (vs ++ us)
  | [], _, _, _, h, h' => by rw [show _ = [] from h]; exact h'
  | d :: ds, es, _, us, ⟨v, r, e, h1, h2⟩, h' => ⟨v, r ++ us, by rw [e]; rfl, h1, RdL.append (ds := ds) h2 h'⟩
theorem RdL.take : ∀ {ds : List D} {vs : List V} (n : Nat), RdL K S H ds vs → RdL K S H (ds.take n) (vs.take n)
  | [], _, n, h => by rw [show _ = [] from h]; simp [RdL]
  | d :: ds, _, 0, ⟨v, r, e, h1, h2⟩ => by simp [RdL]
  | d :: ds, _, n + 1, ⟨v, r, e, h1, h2⟩ => ⟨v, r.take n, by rw [e]; rfl, h1, RdL.take (ds := ds) n h2⟩
theorem RdL.drop : ∀ {ds : List D} {vs : List V} (n : Nat), RdL K S H ds vs → RdL K S H (ds.drop n) (vs.drop n)
  | [], _, n, h => by rw [show _ = [] from h]; simp [RdL]
  | d :: ds, _, 0, h => by simpa using h
  | d :: ds, _, n + 1, ⟨v, r, e, h1, h2⟩ => by rw [e]; simpa using RdL.drop (ds := ds) n h2
theorem RdL.rev : ∀ {ds : List D} {vs : List V}, RdL K S H ds vs → RdL K S H ds.reverse vs.reverse
  | [], _, h => by rw [show _ = [] from h]; simp [RdL]
  | d :: ds, _, ⟨v, r, e, h1, h2⟩ => by
    rw [e, List.reverse_cons, List.reverse_cons]
    exact RdL.append (RdL.rev (ds := ds) h2) ⟨v, [], rfl, h1, rfl⟩
theorem RdL.set : ∀ {ds : List D} {vs : List V} {d : D} {v : V} (i : Nat), RdL K S H ds vs → Rdd K S H d v → RdL K S H (ds.set i d) (vs.set i v)
  | [], _, _, _, i, h, _ => by rw [show _ = [] from h]; simp [RdL]
  | _ :: ds, _, d', v', 0, ⟨v, r, e, _, h2⟩, h' => by rw [e]; exact ⟨v', r, rfl, h', h2⟩
  | d :: ds, _, d', v', i + 1, ⟨v, r, e, h1, h2⟩, h' => by rw [e]; exact ⟨v, r.set i v', rfl, h1, RdL.set (ds := ds) i h2 h'⟩
theorem RdL.ints : ∀ (ns : List Int), RdL K S H (ns.map .int) (ns.map V.int)
  | [] => rfl
  | n :: ns => ⟨.int n, ns.map V.int, rfl, rfl, RdL.ints ns⟩
theorem RdL.ints_inv : ∀ {ns : List Int} {vs : List V}, RdL K S H (ns.map .int) vs → vs = ns.map V.int
  | [], _, h => h
  | n :: ns, _, ⟨v, r, e, h1, h2⟩ => by rw [e, show v = V.int n from h1, RdL.ints_inv (ns := ns) h2]; rfl
theorem RdL.replicate {d : D} {v : V} (h : Rdd K S H d v) : ∀ n : Nat, RdL K S H (List.replicate n d) (List.replicate n v)
  | 0 => rfl
  | n + 1 => ⟨v, List.replicate n v, rfl, h, RdL.replicate h n⟩
end

/-! ### the deck, the frames -/
structure Wd where
  kc : Str
  km : Str
  kd : Str
  T : List (Addr × Str)
structure Dq where
  w : Wd
  p : Addr
  l : Addr
def DkOk (q : Dq) (H : Hp) : Prop := ∃ (cells : List Int) (m n : Int),
  H q.p = some (.dK [(.inr q.w.kc, .ref q.l), (.inr q.w.km, .int m), (.inr q.w.kd, .int n)]) ∧ H q.l = some (.lst (cells.map V.int)) ∧ cells.length ≤ 63 ∧ ∃ o φ, H sysModules = some (.frz o (.ext φ))
/-- nothing of note stands there -/
abbrev Nn (H : Hp) (a : Addr) : Prop := ∀ o, H a = some o → ∃ ps, o = .tbl ps
theorem Nn.of {H : Hp} {a : Addr} (n : H a = none) : Nn H a := fun o e => by rw [n] at e; cases e
theorem Nn.no {H : Hp} {a : Addr} {o : HO} (n : Nn H a) (e : H a = some o) (h : ∀ ps, o ≠ .tbl ps) : False := let ⟨ps, z⟩ := n o e; h ps z
structure KpX (q : Dq) (H H' : Hp) : Prop where
  kp : ∀ b o, H b = some o → b ≠ q.p → b ≠ q.l → (∀ ps, o ≠ .tbl ps) → H' b = some o
  th : ∀ b o, H b = some o → (∀ ps, o ≠ .tbl ps) → ∃ o', H' b = some o' ∧ ∀ ps, o' ≠ .tbl ps
theorem KpX.refl (q : Dq) (H : Hp) : KpX q H H := ⟨fun _ _ e _ _ _ => e, fun _ o e h => ⟨o, e, h⟩⟩
theorem KpX.trans {q : Dq} {H H1 H2 : Hp} (a : KpX q H H1) (b : KpX q H1 H2) : KpX q H H2 :=
  ⟨fun c o e h1 h2 h3 => b.kp c o (a.kp c o e h1 h2 h3) h1 h2 h3, fun c o e h => let ⟨o', e', h'⟩ := a.th c o e h; b.th c o' e' h'⟩
theorem KpX.new {q : Dq} {H : Hp} {a : Addr} {o : HO} (n : H a = none) : KpX q H (upd H a o) :=
  ⟨fun b u e _ _ _ => by rw [upd_ne (ne_of_none e n)]; exact e, fun b u e h => ⟨u, by rw [upd_ne (ne_of_none e n)]; exact e, h⟩⟩
theorem KpX.free {q : Dq} {H H' : Hp} (k : KpX q H H') {a : Addr} (n : Nn H' a) : Nn H a := fun o e => Classical.byContradiction fun z => by
  obtain ⟨o', e', h'⟩ := k.th a o e fun ps y => z ⟨ps, y⟩
  exact n.no e' h'
structure Stp (q : Dq) (F F' : Addr → Prop) (H H' : Hp) : Prop where
  kp : KpX q H H'
  up : ∀ a, F a → F' a
  nw : ∀ a, F' a → F a ∨ Nn H a
theorem Stp.refl (q : Dq) (F : Addr → Prop) (H : Hp) : Stp q F F H H := ⟨KpX.refl q H, fun _ h => h, fun _ h => .inl h⟩
theorem Stp.trans {q : Dq} {F F1 F2 : Addr → Prop} {H H1 H2 : Hp} (a : Stp q F F1 H H1) (b : Stp q F1 F2 H1 H2) : Stp q F F2 H H2 :=
  ⟨a.kp.trans b.kp, fun c h => b.up c (a.up c h), fun c h => (b.nw c h).elim (a.nw c) fun n => .inr (a.kp.free n)⟩

/-- what a slot of a def holds, seen from outside the heap -/
inductive Slot where
  | un
  | val (d : D)
  | raw (v : V)
  | deck
  | own (ds : List D)
/-- what a call hands on -/
inductive Arg where
  | dat (d : D)
  | raw (v : V)
  | deck

structure Ct where
  q : Dq
  H0 : Hp
  S0 : Addr → Prop
def SlotOk (K : PySem.W.Frag) (p : Addr) (F : Addr → Prop) (H : Hp) (fp : List Addr) : Slot → Option (Option V) → Prop
  | .un, _ => True
  | .val d, o => ∃ v, o = some (some v) ∧ Rdd K F H d v
  | .raw v, o => o = some (some v)
  | .deck, o => o = some (some (.ref p))
  | .own ds, o => ∃ a vs, o = some (some (.ref a)) ∧ a ∈ fp ∧ H a = some (.lst vs) ∧ RdL K F H ds vs
abbrev Fps := Nat → List Addr
abbrev FzOk (q : Dq) (F : Addr → Prop) (H : Hp) : Prop := ∀ a, F a → a ≠ q.p ∧ a ≠ q.l ∧ H a ≠ none ∧ ∀ ps, H a ≠ some (.tbl ps)
structure Rel (K : PySem.W.Frag) (C : Ct) (F : Addr → Prop) (O : Fps) (ρ : List Slot) (σ : L2.St) (H : Hp) : Prop where
  ln : ρ.length ≤ σ.length
  dk : DkOk C.q H
  tb : LamX.Tabs C.q.w.T H
  fz : FzOk C.q F H
  kp : KpX C.q C.H0 H
  up : ∀ a, C.S0 a → F a
  nw : ∀ a, F a → C.S0 a ∨ Nn C.H0 a
  sl : ∀ i s, ρ[i]? = some s → SlotOk K C.q.p F H (O i) s (σ[i]?)
  oo : ∀ i, ∀ a ∈ O i, ¬ F a ∧ a ≠ C.q.p ∧ a ≠ C.q.l ∧ Nn C.H0 a ∧ H a ≠ none ∧ ∀ ps, H a ≠ some (.tbl ps)
  dj : ∀ i j, i ≠ j → ∀ a ∈ O i, a ∉ O j
section
variable {K : PySem.W.Frag} {q : Dq} {C : Ct} {F F' : Addr → Prop} {O : Fps} {ρ : List Slot} {σ : L2.St} {H H' : Hp}
theorem SqT.kpx (hd : DkOk q H) (k : KpX q H H') {a : Addr} {vs : List V} (h : SqT K H a vs) : SqT K H' a vs := by
  obtain ⟨cells, m, n, h1, h2, _⟩ := hd
  have key : ∀ o, H a = some o → (∀ kvs, o ≠ .dK kvs) → (∀ xs, o ≠ .lst xs) → (∀ ps, o ≠ .tbl ps) → H' a = some o := fun o e n1 n2 n3 =>
    k.kp a o e (fun z => by rw [z, h1] at e; exact n1 _ (Option.some.inj e).symm) (fun z => by rw [z, h2] at e; exact n2 _ (Option.some.inj e).symm) n3
  rcases h with (h | ⟨o, h⟩) | h
  · exact .inl (.inl (key _ h (fun _ z => nomatch z) (fun _ z => nomatch z) (fun _ z => nomatch z)))
  · exact .inl (.inr ⟨o, key _ h (fun _ z => nomatch z) (fun _ z => nomatch z) (fun _ z => nomatch z)⟩)
  · exact .inr h
theorem Rdd.stp (hd : DkOk q H) (hf : ∀ a, F a → a ≠ q.p ∧ a ≠ q.l ∧ H a ≠ none ∧ ∀ ps, H a ≠ some (.tbl ps)) (s : Stp q F F' H H') {d : D} {v : V} (h : Rdd K F H d v) : Rdd K F' H' d v :=
  Rdd.keep (fun a => s.up a) (fun a vs => SqT.kpx hd s.kp) (fun a o ha e => s.kp.kp a o e (hf a ha).1 (hf a ha).2.1 fun ps z => (hf a ha).2.2.2 ps (by rw [e, z])) d v h
theorem RdL.stp (hd : DkOk q H) (hf : ∀ a, F a → a ≠ q.p ∧ a ≠ q.l ∧ H a ≠ none ∧ ∀ ps, H a ≠ some (.tbl ps)) (s : Stp q F F' H H') {ds : List D} {vs : List V} (h : RdL K F H ds vs) : RdL K F' H' ds vs :=
  RdL.keep (fun a => s.up a) (fun a vs => SqT.kpx hd s.kp) (fun a o ha e => s.kp.kp a o e (hf a ha).1 (hf a ha).2.1 fun ps z => (hf a ha).2.2.2 ps (by rw [e, z])) ds vs h
theorem Rdd.stpR (R : Rel K C F O ρ σ H) (s : Stp C.q F F' H H') {d : D} {v : V} (h : Rdd K F H d v) : Rdd K F' H' d v := Rdd.stp R.dk R.fz s h
theorem RdL.stpR (R : Rel K C F O ρ σ H) (s : Stp C.q F F' H H') {d : List D} {v : List V} (h : RdL K F H d v) : RdL K F' H' d v := RdL.stp R.dk R.fz s h
/-- a slot stays -/
theorem SlotOk.stp (R : Rel K C F O ρ σ H) (s : Stp C.q F F' H H') {i : Nat} {sl : Slot} {o : Option (Option V)} (h : SlotOk K C.q.p F H (O i) sl o) : SlotOk K C.q.p F' H' (O i) sl o := by
  cases sl with
  | un => exact True.intro
  | val d => obtain ⟨v, e, r⟩ := h; exact ⟨v, e, r.stpR R s⟩
  | raw v => exact h
  | deck => exact h
  | own ds =>
    obtain ⟨a, vs, e, ha, hl, r⟩ := h
    obtain ⟨_, h1, h2, _, _, h3⟩ := R.oo i a ha
    exact ⟨a, vs, e, ha, s.kp.kp a _ hl h1 h2 (fun ps z => nomatch z), r.stpR R s⟩
/-- the heap has grown by a new object that is no table, nothing else -/
theorem th_of {a : Addr} (k : KpX q H H') (h3 : H a ≠ none) (h4 : ∀ ps, H a ≠ some (.tbl ps)) : H' a ≠ none ∧ ∀ ps, H' a ≠ some (.tbl ps) := by
  cases e : H a with
  | none => exact absurd e h3
  | some o =>
    obtain ⟨o', e', h'⟩ := k.th a o e fun ps z => h4 ps (by rw [e, z])
    exact ⟨by rw [e']; simp, fun ps z => by rw [e'] at z; exact h' ps (Option.some.inj z)⟩
theorem Nn.nn {a : Addr} (n : Nn H a) (h3 : H a ≠ none) (h4 : ∀ ps, H a ≠ some (.tbl ps)) : False := by
  cases e : H a with
  | none => exact h3 e
  | some o => exact n.no e fun ps z => h4 ps (by rw [e, z])
/-- the heap has grown by a new object that is no table, nothing else -/
theorem Rel.step (R : Rel K C F O ρ σ H) (s : Stp C.q F F' H H') (hd : DkOk C.q H') (ht : LamX.Tabs C.q.w.T H')
    (hf : ∀ a, F' a → ¬ F a → a ≠ C.q.p ∧ a ≠ C.q.l ∧ H' a ≠ none ∧ ∀ ps, H' a ≠ some (.tbl ps)) : Rel K C F' O ρ σ H' where
  ln := R.ln
  dk := hd
  tb := ht
  fz := fun a ha => by
    by_cases h : F a
    · obtain ⟨h1, h2, h3, h4⟩ := R.fz a h
      exact ⟨h1, h2, th_of s.kp h3 h4⟩
    · exact hf a ha h
  kp := R.kp.trans s.kp
  up := fun a h => s.up a (R.up a h)
  nw := fun a h => (s.nw a h).elim (R.nw a) fun n => .inr (R.kp.free n)
  sl := fun i sl e => (R.sl i sl e).stp R s
  oo := fun i a ha => by
    obtain ⟨h0, h1, h2, h3, h4, h5⟩ := R.oo i a ha
    exact ⟨fun z => (s.nw a z).elim h0 fun n => n.nn h4 h5, h1, h2, h3, th_of s.kp h4 h5⟩
  dj := R.dj
theorem DkOk.new (hd : DkOk q H) {a : Addr} {o : HO} (n : H a = none) : DkOk q (upd H a o) := by
  obtain ⟨cells, m, k, h1, h2, h3, ob, φ, h4⟩ := hd
  exact ⟨cells, m, k, by rw [upd_ne (ne_of_none h1 n)]; exact h1, by rw [upd_ne (ne_of_none h2 n)]; exact h2, h3, ob, φ, by rw [upd_ne (ne_of_none h4 n)]; exact h4⟩
theorem Tabs.new {T : List (Addr × Str)} (ht : LamX.Tabs T H) {a : Addr} {o : HO} (n : H a = none) : LamX.Tabs T (upd H a o) :=
  ht.ext fun b u e => by rw [upd_ne (ne_of_none e n)]; exact e
theorem Stp.new (n : H a = none) : Stp q F F H (upd H a o) := ⟨KpX.new n, fun _ h => h, fun _ h => .inl h⟩
/-- a new object is laid, not frozen -/
theorem Rel.new (R : Rel K C F O ρ σ H) {a : Addr} {o : HO} (n : H a = none) : Rel K C F O ρ σ (upd H a o) :=
  R.step (Stp.new n) (R.dk.new n) (Tabs.new R.tb n) fun b h h' => absurd h h'
theorem Rel.np (R : Rel K C F O ρ σ H) {a : Addr} (n : Nn H a) : a ≠ C.q.p ∧ a ≠ C.q.l ∧ Nn C.H0 a ∧ ¬ F a ∧ ∀ i, a ∉ O i := by
  obtain ⟨cells, m, k, h1, h2, _⟩ := R.dk
  exact ⟨fun z => n.no (show H a = some (.dK _) by rw [z]; exact h1) (fun ps z => nomatch z), fun z => n.no (show H a = some (.lst _) by rw [z]; exact h2) (fun ps z => nomatch z), R.kp.free n, fun z => n.nn (R.fz a z).2.2.1 (R.fz a z).2.2.2, fun i z => n.nn (R.oo i a z).2.2.2.2.1 (R.oo i a z).2.2.2.2.2⟩
/-- an own or loose object is frozen -/
theorem Rel.freeze (R : Rel K C F O ρ σ H) {a : Addr} (h1 : a ≠ C.q.p) (h2 : a ≠ C.q.l) (h3 : Nn C.H0 a) (h4 : H a ≠ none) (h5 : ∀ ps, H a ≠ some (.tbl ps)) (h6 : ∀ i, a ∉ O i) :
    Rel K C (fun b => F b ∨ b = a) O ρ σ H := by
  have mono : ∀ {d : D} {v : V}, Rdd K F H d v → Rdd K (fun b => F b ∨ b = a) H d v := fun {d v} h => Rdd.keep (fun b => Or.inl) (fun _ _ z => z) (fun _ _ _ z => z) d v h
  have monoL : ∀ {d : List D} {v : List V}, RdL K F H d v → RdL K (fun b => F b ∨ b = a) H d v := fun {d v} h => RdL.keep (fun b => Or.inl) (fun _ _ z => z) (fun _ _ _ z => z) d v h
  refine ⟨R.ln, R.dk, R.tb, fun b hb => ?_, R.kp, fun b hb => .inl (R.up b hb), fun b hb => ?_, fun i s e => ?_, fun i b hb => ?_, R.dj⟩
  · rcases hb with hb | rfl
    · exact R.fz b hb
    · exact ⟨h1, h2, h4, h5⟩
  · rcases hb with hb | rfl
    · exact R.nw b hb
    · exact .inr h3
  · have q := R.sl i s e
    cases s with
    | un => exact True.intro
    | val d => obtain ⟨v, e, r⟩ := q; exact ⟨v, e, mono r⟩
    | raw v => exact q
    | deck => exact q
    | own ds => obtain ⟨b, vs, e, hb, hl, r⟩ := q; exact ⟨b, vs, e, hb, hl, monoL r⟩
  · obtain ⟨g0, g⟩ := R.oo i b hb
    exact ⟨fun z => z.elim g0 fun e => h6 i (e ▸ hb), g⟩
theorem Stp.freeze {a : Addr} (n : Nn H a) (s : Stp q F F' H H') : Stp q F (fun b => F' b ∨ b = a) H H' :=
  ⟨s.kp, fun b h => .inl (s.up b h), fun b h => h.elim (s.nw b) fun e => .inr (e ▸ n)⟩
end

/-! ### results: frozen, an operand, fresh -/
abbrev RR := (Addr → Prop) → Fps → Hp → Hp → D → V → Prop
def rE (K : PySem.W.Frag) : RR := fun F _ _ H d v => Rdd K F H d v
def rF (K : PySem.W.Frag) : RR := fun F O H₀ H d v => match d with
  | .list ds => ∃ a vs, v = .ref a ∧ Nn H₀ a ∧ ¬ F a ∧ (∀ i, a ∉ O i) ∧ H a = some (.lst vs) ∧ RdL K F H ds vs
  | _ => False
def rO (K : PySem.W.Frag) : RR := fun F O _ H d v => match d with
  | .list ds => ∃ a vs, v = .ref a ∧ (F a ∨ ∃ i, a ∈ O i) ∧ H a = some (.lst vs) ∧ RdL K F H ds vs
  | d => Rdd K F H d v
theorem rE_O {K : PySem.W.Frag} {F : Addr → Prop} {O : Fps} {H₀ H : Hp} {d : D} {v : V} (h : rE K F O H₀ H d v) : rO K F O H₀ H d v := by
  cases d with
  | list ds => obtain ⟨a, vs, e, hs, ha, hr⟩ := h; exact ⟨a, vs, e, .inl hs, ha, hr⟩
  | _ => exact h

abbrev TED := List Slot → (D → Prop) → Prop
def MonoE (t : TED) : Prop := ∀ ρ (P P' : D → Prop), (∀ d, P d → P' d) → t ρ P → t ρ P'
def lift (R : RR) (K : PySem.W.Frag) (C : Ct) (t : TED) : TE := fun σ H Q => ∃ F O ρ, Rel K C F O ρ σ H ∧
  t ρ fun d => ∀ v H' F', Stp C.q F F' H H' → Rel K C F' O ρ σ H' → R F' O H H' d v → Q v H'
structure PV (R : PySem.W.Frag → RR) (X : Cx) (C : Ct) (e : Expr) (t : TED) : Prop where
  mono : MonoE t
  run : PE X e (lift (R X.K) X.K C t)
theorem pe_imp {X : Cx} {e : Expr} {t t' : TE} (h : PE X e t) (i : ∀ σ H Q, t' σ H Q → t σ H Q) : PE X e t' := ⟨fun pins s σ H Q I q => h.run pins s σ H Q I (i σ H Q q)⟩
abbrev PD := PV rE
abbrev PO := PV rO
abbrev PF := PV rF
section
variable {X : Cx} {C : Ct} {e : Expr} {t : TED}
theorem PO.of (h : PD X C e t) : PO X C e t := ⟨h.mono, pe_imp h.run fun σ H Q ⟨F, O, ρ, R, q⟩ => ⟨F, O, ρ, R, h.mono _ _ _ (fun d k v H' F' s R' r => k v H' F' s R' (rE_O r)) q⟩⟩
/-- a fresh list is frozen -/
theorem PD.ofF (h : PF X C e t) : PD X C e t := ⟨h.mono, pe_imp h.run fun σ H Q ⟨F, O, ρ, R, q⟩ => ⟨F, O, ρ, R, h.mono _ _ _ (fun d k v H' F' s R' r => by
  cases d with
  | list ds =>
    obtain ⟨a, vs, e, hA, h1, h2, h3, h4⟩ := r
    obtain ⟨n1, n2, n3, _, _⟩ := R.np hA
    refine k v H' _ (Stp.freeze hA s) (R'.freeze n1 n2 n3 (by rw [h3]; simp) (by rw [h3]; intro ps z; cases z) h2) ⟨a, vs, e, .inr rfl, h3, ?_⟩
    exact RdL.keep (fun b => Or.inl) (fun _ _ z => z) (fun _ _ _ z => z) _ _ h4
  | _ => exact r.elim) q⟩⟩
end
/-! ### calls of defs -/
structure FnR (G : Around → Prop) (P : Program) (w : World) (K : PySem.W.Frag) (mg : Str → Option Value) (base : Heap) (CX : CXT) (k : Nat) (f : Addr) (fd : FuncData) (ps : List Str) (sp : Sp) : Prop where
  len : ∀ vs H Q E, sp vs H Q E → vs.length = ps.length
  run : ∀ (A : Around) (outer : List Env) (s : Shared) (H : Hp) (args : Args) (us : List Value) (vs : List V) (Q : VK) (E : XK), Room k A → G A → Env0 P w K mg base A outer s H → BindsTo s fd args (ps.zip us) → Vals vs us → sp vs H Q E →
    codeAny (model P w) A (.call (.ref f) args) (CR CX outer P w H s Q E) s
theorem FnR.of {G : Around → Prop} {P : Program} {w : World} {K : PySem.W.Frag} {mg : Str → Option Value} {base : Heap} {CX : CXT} {k : Nat} {f : Addr} {fd : FuncData} {ps : List Str} {sp : Sp} (F : FnOk P w K mg base CX k f fd ps sp) : FnR G P w K mg base CX k f fd ps sp :=
  ⟨F.len, fun A outer s H args us vs Q E hr _ => F.run A outer s H args us vs Q E hr⟩
section
variable {G : Around → Prop} {X : Cx} {CX : CXT} {k : Nat} {f : Addr} {fd : FuncData} {ps : List Str} {sp : Sp} {ds : List Value} {dvs : List V} {E : XK} {x : Str} {p pos : Pos} {e : Expr} {es : List Expr} {t : TA}
theorem fin_call {pins : List (Addr × Obj)} {σ : L2.St} {H : Hp} {s : Shared} {Q : VK} {r : Result} {s' : Shared} (hx : Passes CX X E) (I : Inv X pins σ H s) (hq : CR CX X.stack X.prog X.w H s Q E r s') :
    match r with | .ok (.ret u) => EP X pins σ Q u s' | .ok _ => False | .error e => X.xe e s' := by
  cases r with
  | error e => exact hx pins σ H s e s' I hq
  | ok fl =>
    cases fl with
    | ret u => exact I.after hq
    | next => exact False.elim hq
    | brk => exact False.elim hq
    | cont => exact False.elim hq
theorem run_fnR {pins : List (Addr × Obj)} {σ : L2.St} {H : Hp} {s : Shared} {Q : VK} {us : List Value} {vs : List V} (F : FnR G X.prog X.w X.K X.mg X.base CX k f fd ps sp) (hr : Room k X.A) (hG : G X.A) (hb : Binds X.K fd ps ds) (hd : Vals dvs ds) (hx : Passes CX X E)
    (I : Inv X pins σ H s) (r : Vals vs us) (h : sp (vs ++ dvs) H Q E) : wpAny (model X.prog X.w) X.A (call (.ref f) us) (EP X pins σ Q) X.xe s := by
  have r2 : Vals (vs ++ dvs) (us ++ ds) := r.append hd
  have hl : (us ++ ds).length = ps.length := r2.length.symm.trans (F.len _ _ _ _ h)
  refine wpAny_call (codeAny_mono (F.run X.A X.stack s H ⟨us, []⟩ _ _ Q E hr hG I.env0 (hb s us I.kIn hl) r2 h) fun r s' hq => ?_)
  have z := fin_call hx I hq
  cases r with
  | error e => exact z
  | ok fl => cases fl <;> first | exact z | exact z.elim
theorem pe_callR (F : FnR G X.prog X.w X.K X.mg X.base CX k f fd ps sp) (hr : Room k X.A) (hG : G X.A) (hg : Gl X x) (hm : X.mg x = some (.ref f)) (hk : PySem.W.keepIn X.K (.ref f) = true) (hb : Binds X.K fd ps ds) (hd : Vals dvs ds) (hx : Passes CX X E)
    (ha : PA X (e :: es) t) (hdb : (x == ("__debug__" : Str)) = false := by decide) (he : starEach (e :: es) X.env = (false, eval e X.env) :: starEach es X.env := by rfl) (hpl : (backTo pos (starEach es X.env)).any (·.1) = false := by rfl) :
    PE X (.Call (.Name x p) (e :: es) [] pos) (tCall sp dvs E t) :=
  ⟨fun pins s σ H Q I h => wpAny_Call_Name_kw (ld_glob I hg hm (PySem.W.callWith_K (h₀ := X.base) I.ok.mod.kin hk (thn (ha.run pos pins s σ H _ I h) fun us s1 ⟨vs, H1, I1, r, q⟩ => ⟨I1.kIn, run_fnR F hr hG hb hd hx I1 r q⟩) he hpl) hdb)⟩
end

/-- a def's promise over data: what it hands back, what it raises -/
abbrev XP := Addr → Str → D → Prop
structure FD where
  run : List Arg → (D → Prop) → XP → Prop
  mono : ∀ as P P' Z Z', (∀ d, P d → P' d) → (∀ c n d, Z c n d → Z' c n d) → run as P Z → run as P' Z'
def ArgR (K : PySem.W.Frag) (q : Dq) (F : Addr → Prop) (H : Hp) : Arg → V → Prop
  | .dat d, v => Rdd K F H d v
  | .raw u, v => v = u
  | .deck, v => v = .ref q.p
def ArgsR (K : PySem.W.Frag) (q : Dq) (F : Addr → Prop) (H : Hp) : List Arg → List V → Prop
  | [], vs => vs = []
  | a :: as, vs => ∃ v r, vs = v :: r ∧ ArgR K q F H a v ∧ ArgsR K q F H as r
def spD (K : PySem.W.Frag) (w : Wd) (Fd : FD) : Sp := fun vs H Q E => ∃ (q : Dq) (S : Addr → Prop) (as : List Arg), q.w = w ∧ DkOk q H ∧ LamX.Tabs w.T H ∧ FzOk q S H ∧ ArgsR K q S H as vs ∧
  Fd.run as (fun d => ∀ v H' S', Stp q S S' H H' → DkOk q H' → LamX.Tabs w.T H' → FzOk q S' H' → Rdd K S' H' d v → Q v H')
    (fun c nm d => ∀ dx v H' S', Stp q S S' H H' → DkOk q H' → LamX.Tabs w.T H' → FzOk q S' H' → H' dx = some (.xd [(nm, v)]) → Rdd K S' H' d v → E (.ref c) (some dx) H')
/-- what is wished of exceptions is met -/
structure XO (X : Cx) (C : Ct) (px : XP) (CX : CXT) (E : XK) : Prop where
  pass : Passes CX X E
  hpx : ∀ c nm d, px c nm d → ∀ dx v F O ρ σ H, Rel X.K C F O ρ σ H → H dx = some (.xd [(nm, v)]) → Rdd X.K F H d v → E (.ref c) (some dx) H

abbrev TAD := List Slot → (List Arg → Prop) → Prop
def liftA (K : PySem.W.Frag) (C : Ct) (t : TAD) : TA := fun σ H Q => ∃ F O ρ, Rel K C F O ρ σ H ∧ t ρ fun as => ∀ vs H' F', Stp C.q F F' H H' → Rel K C F' O ρ σ H' → ArgsR K C.q F' H' as vs → Q vs H'
structure DA (X : Cx) (C : Ct) (es : List Expr) (t : TAD) : Prop where
  mono : ∀ ρ (P P' : List Arg → Prop), (∀ d, P d → P' d) → t ρ P → t ρ P'
  run : PA X es (liftA X.K C t)
theorem pa_imp {X : Cx} {es : List Expr} {t t' : TA} (h : PA X es t) (i : ∀ σ H Q, t' σ H Q → t σ H Q) : PA X es t' := ⟨fun pos pins s σ H Q I q => h.run pos pins s σ H Q I (i σ H Q q)⟩
def aNil : TAD := fun _ P => P []
def aCons (te : TED) (ta : TAD) : TAD := fun ρ P => te ρ fun d => ta ρ fun as => P (.dat d :: as)
def slotArg : Slot → Option Arg
  | .raw v => some (.raw v)
  | .deck => some .deck
  | _ => none
def aSlot (i : Nat) (ta : TAD) : TAD := fun ρ P => match (ρ[i]?).bind slotArg with
  | some a => ta ρ fun as => P (a :: as)
  | none => False
section
variable {X : Cx} {C : Ct} {e : Expr} {es : List Expr} {te : TED} {ta : TAD}
theorem da_nil : DA X C [] aNil := ⟨fun _ _ _ k h => k _ h, pa_imp pa_nil fun σ H Q ⟨F, O, ρ, R, q⟩ => q [] H F (Stp.refl _ _ _) R rfl⟩
theorem da_cons (h : PD X C e te) (ha : DA X C es ta) (hs : starEach (e :: es) X.env = (false, eval e X.env) :: starEach es X.env := by rfl) : DA X C (e :: es) (aCons te ta) :=
  ⟨fun ρ P P' k => h.mono _ _ _ fun d => ha.mono _ _ _ fun as => k _, pa_imp (pa_cons h.run ha.run hs) fun σ H Q ⟨F, O, ρ, R, q⟩ =>
    ⟨F, O, ρ, R, h.mono _ _ _ (fun d k v H1 F1 s1 R1 r1 => ⟨F1, O, ρ, R1, ha.mono _ _ _ (fun as k2 vs H2 F2 s2 R2 r2 => k2 _ H2 F2 (s1.trans s2) R2 ⟨v, vs, rfl, Rdd.stpR R1 s2 r1, r2⟩) k⟩) q⟩⟩
theorem da_slot {i : Nat} {x : Str} {pos : Pos} (ha : DA X C es ta) (hN : X.N[i]? = some x := by rfl) (hv : Vis X.env.scope x := by first | exact Or.inl rfl | exact Or.inr (Or.inl rfl) | exact Or.inr (Or.inr rfl)) (hd : (x == ("__debug__" : Str)) = false := by decide)
    (hcd : (x == ("__classdict__" : Str)) = false := by decide) (hs : starEach (.Name x pos :: es) X.env = (false, eval (.Name x pos) X.env) :: starEach es X.env := by rfl) : DA X C (.Name x pos :: es) (aSlot i ta) := by
  refine ⟨fun ρ P P' k h => ?_, pa_imp (pa_cons (pe_var hN hv hd hcd) ha.run hs) fun σ H Q ⟨F, O, ρ, R, q⟩ => ?_⟩
  · unfold aSlot at h ⊢
    split at h
    · exact ha.mono _ _ _ (fun as => k _) h
    · exact h
  · unfold aSlot at q
    split at q
    · rename_i a ea
      cases es : ρ[i]? with
      | none => rw [es] at ea; cases ea
      | some s =>
        rw [es] at ea
        have z := R.sl i s es
        cases s with
        | raw v =>
          cases ea
          exact ⟨v, z, F, O, ρ, R, ha.mono _ _ _ (fun as k2 vs H2 F2 s2 R2 r2 => k2 _ H2 F2 s2 R2 ⟨v, vs, rfl, rfl, r2⟩) q⟩
        | deck =>
          cases ea
          exact ⟨.ref C.q.p, z, F, O, ρ, R, ha.mono _ _ _ (fun as k2 vs H2 F2 s2 R2 r2 => k2 _ H2 F2 s2 R2 ⟨_, vs, rfl, rfl, r2⟩) q⟩
        | _ => cases ea
    · exact q.elim
end
def tCallD (Fd : FD) (px : XP) (t : TAD) : TED := fun ρ P => t ρ fun as => Fd.run as P px
section
variable {G : Around → Prop} {X : Cx} {C : Ct} {CX : CXT} {k : Nat} {f : Addr} {fd : FuncData} {ps : List Str} {Fd : FD} {E : XK} {x : Str} {p pos : Pos} {e : Expr} {es : List Expr} {t : TAD}
theorem spD_of {F : Addr → Prop} {O : Fps} {ρ : List Slot} {σ : L2.St} {H : Hp} {as : List Arg} {vs : List V} {P : D → Prop} {Q : VK} {px : XP} (hx : XO X C px CX E) (R : Rel X.K C F O ρ σ H) (ra : ArgsR X.K C.q F H as vs) (h : Fd.run as P px)
    (k : ∀ d, P d → ∀ v H' F', Stp C.q F F' H H' → Rel X.K C F' O ρ σ H' → Rdd X.K F' H' d v → Q v H') : spD X.K C.q.w Fd vs H Q E := by
  refine ⟨C.q, F, as, rfl, R.dk, R.tb, R.fz, ra, Fd.mono _ _ _ _ _ (fun d hp v H' S' s hd ht hf r => k d hp v H' S' s (R.step s hd ht fun a h1 _ => hf a h1) r) (fun c nm d hp dx v H' S' s hd ht hf e r => ?_) h⟩
  exact hx.hpx c nm d hp dx v S' O ρ σ H' (R.step s hd ht fun a h1 _ => hf a h1) e r
theorem pv_call {px : XP} (F : FnR G X.prog X.w X.K X.mg X.base CX k f fd ps (spD X.K C.q.w Fd)) (hr : Room k X.A) (hG : G X.A) (hg : Gl X x) (hm : X.mg x = some (.ref f)) (hk : PySem.W.keepIn X.K (.ref f) = true) (hb : Binds X.K fd ps []) (hx : XO X C px CX E)
    (ha : DA X C (e :: es) t) (hdb : (x == ("__debug__" : Str)) = false := by decide) (he : starEach (e :: es) X.env = (false, eval e X.env) :: starEach es X.env := by rfl) (hpl : (backTo pos (starEach es X.env)).any (·.1) = false := by rfl) :
    PD X C (.Call (.Name x p) (e :: es) [] pos) (tCallD Fd px t) :=
  ⟨fun ρ P P' k => ha.mono _ _ _ fun as => Fd.mono _ _ _ _ _ k fun _ _ _ z => z, pe_imp (pe_callR F hr hG hg hm hk hb .nil hx.pass ha.run hdb he hpl) fun σ H Q ⟨F, O, ρ, R, q⟩ =>
    ⟨F, O, ρ, R, ha.mono _ _ _ (fun as k2 vs H1 F1 s1 R1 ra => by
      show spD X.K C.q.w Fd (vs ++ []) H1 Q E
      rw [List.append_nil]
      exact spD_of hx R1 ra k2 fun d kd v H2 F2 s2 R2 r2 => kd v H2 F2 (s1.trans s2) R2 r2) q⟩⟩
end
end DL

namespace DL
open PySem PySem.Spec PyProof.Rows L2

/-! ### tests -/
abbrev TTD := List Slot → (Bool → Prop) → Prop
def liftT (K : PySem.W.Frag) (C : Ct) (t : TTD) : TT := fun σ H Q => ∃ F O ρ, Rel K C F O ρ σ H ∧ t ρ fun b => ∀ H' F', Stp C.q F F' H H' → Rel K C F' O ρ σ H' → Q b H'
def MonoT (t : TTD) : Prop := ∀ ρ (P P' : Bool → Prop), (∀ b, P b → P' b) → t ρ P → t ρ P'
structure DT (X : Cx) (C : Ct) (e : Expr) (t : TTD) : Prop where
  mono : MonoT t
  run : PT X e (liftT X.K C t)
structure DW (X : Cx) (C : Ct) (e : Expr) (t : TTD) : Prop where
  mono : MonoT t
  run : PW X e (liftT X.K C t)
theorem pt_imp {X : Cx} {e : Expr} {t t' : TT} (h : PT X e t) (i : ∀ σ H Q, t' σ H Q → t σ H Q) : PT X e t' := ⟨fun pins s σ H Q I q => h.run pins s σ H Q I (i σ H Q q)⟩
theorem pw_imp {X : Cx} {e : Expr} {t t' : TT} (h : PW X e t) (i : ∀ σ H Q, t' σ H Q → t σ H Q) : PW X e t' := ⟨fun wh pins s σ H Q I q => h.run wh pins s σ H Q I (i σ H Q q)⟩
def isB : D → (Bool → Prop) → Prop
  | .bool b, P => P b
  | _, _ => False
def tTestD (t : TED) : TTD := fun ρ P => t ρ fun d => isB d P
section
variable {X : Cx} {C : Ct} {a b c e : Expr} {rest : List Expr} {pos : Pos} {te ta tb : TED} {t u : TTD}
theorem mono_isB {d : D} {P P' : Bool → Prop} (k : ∀ b, P b → P' b) (h : isB d P) : isB d P' := by
  cases d <;> first | exact k _ h | exact h.elim
theorem rdd_isB {K : PySem.W.Frag} {F : Addr → Prop} {H : Hp} {d : D} {v : V} {P : Bool → Prop} (r : Rdd K F H d v) (h : isB d P) : ∃ b, v = .bl b ∧ P b := by
  cases d <;> first | exact ⟨_, r, h⟩ | exact h.elim
/-- an expression of a bool as a test -/
theorem dt_val (h : PD X C e te) (he : ∀ whole, isTrue e X.env whole = (do let v ← whole; standAt e.pos; holding [v] (truthy v)) := by intro _; rfl) : DT X C e (tTestD te) :=
  ⟨fun ρ P P' k => h.mono _ _ _ fun d => mono_isB k, pt_imp (pt_val h.run he) fun σ H Q ⟨F, O, ρ, R, q⟩ => ⟨F, O, ρ, R, h.mono _ _ _ (fun d k v H' F' s R' r => by
    obtain ⟨b, e, hb⟩ := rdd_isB r k
    exact ⟨b, e, hb H' F' s R'⟩) q⟩⟩
/-- a comparison as a test -/
theorem dt_cmp {ops : List CmpOp} {bs : List Expr} (h : PD X C (.Compare a ops bs pos) te) (hp : ∀ {t : TE}, PE X (.Compare a ops bs pos) t → PT X (.Compare a ops bs pos) (tTest t)) : DT X C (.Compare a ops bs pos) (tTestD te) :=
  ⟨fun ρ P P' k => h.mono _ _ _ fun d => mono_isB k, pt_imp (hp h.run) fun σ H Q ⟨F, O, ρ, R, q⟩ => ⟨F, O, ρ, R, h.mono _ _ _ (fun d k v H' F' s R' r => by
    obtain ⟨b, e, hb⟩ := rdd_isB r k
    exact ⟨b, e, hb H' F' s R'⟩) q⟩⟩
def tNotD (t : TTD) : TTD := fun ρ P => t ρ fun b => P (!b)
theorem dt_not (h : DT X C a t) : DT X C (.UnaryOp .Not a pos) (tNotD t) :=
  ⟨fun ρ P P' k => h.mono _ _ _ fun b => k _, pt_imp (pt_not h.run) fun σ H Q q => q⟩
def tAndD (t u : TTD) : TTD := fun ρ P => t ρ fun b => if b = true then u ρ P else P false
def tOrD (t u : TTD) : TTD := fun ρ P => t ρ fun b => if b = true then P true else u ρ P
theorem dw_and1 (h : DT X C a t) : DW X C (.BoolOp .And [a] pos) t := ⟨h.mono, pw_and1 h.run⟩
theorem dw_or1 (h : DT X C a t) : DW X C (.BoolOp .Or [a] pos) t := ⟨h.mono, pw_or1 h.run⟩
theorem mono_ite {c : Bool} {A A' B B' : Prop} (h : if c = true then A else B) (ha : A → A') (hb : B → B') : if c = true then A' else B' := by
  cases c with
  | true => exact ha h
  | false => exact hb h
theorem dw_and (ha : DT X C a t) (hb : DW X C (.BoolOp .And (b :: rest) pos) u) : DW X C (.BoolOp .And (a :: b :: rest) pos) (tAndD t u) :=
  ⟨fun ρ P P' k => ha.mono _ _ _ fun c h => mono_ite h (hb.mono _ _ _ k) (k _), pw_imp (pw_and ha.run hb.run) fun σ H Q ⟨F, O, ρ, R, q⟩ => ⟨F, O, ρ, R, ha.mono _ _ _ (fun c k H' F' s R' =>
    mono_ite k (fun k => ⟨F', O, ρ, R', hb.mono _ _ _ (fun b k2 H2 F2 s2 R2 => k2 H2 F2 (s.trans s2) R2) k⟩) fun k => k H' F' s R') q⟩⟩
theorem dw_or (ha : DT X C a t) (hb : DW X C (.BoolOp .Or (b :: rest) pos) u) : DW X C (.BoolOp .Or (a :: b :: rest) pos) (tOrD t u) :=
  ⟨fun ρ P P' k => ha.mono _ _ _ fun c h => mono_ite h (k _) (hb.mono _ _ _ k), pw_imp (pw_or ha.run hb.run) fun σ H Q ⟨F, O, ρ, R, q⟩ => ⟨F, O, ρ, R, ha.mono _ _ _ (fun c k H' F' s R' =>
    mono_ite k (fun k => k H' F' s R') fun k => ⟨F', O, ρ, R', hb.mono _ _ _ (fun b k2 H2 F2 s2 R2 => k2 H2 F2 (s.trans s2) R2) k⟩) q⟩⟩
theorem dt_bool {op : BoolOp} {es : List Expr} (h : DW X C (.BoolOp op es pos) t) : DT X C (.BoolOp op es pos) t := ⟨h.mono, h.run.pt⟩
/-- a if t else b -/
def tIfD (t : TTD) (ta tb : TED) : TED := fun ρ P => t ρ fun c => if c = true then ta ρ P else tb ρ P
theorem pv_if {R' : PySem.W.Frag → RR} (hc : DT X C c t) (ha : PD X C a ta) (hb : PD X C b tb) : PD X C (.IfExp c a b pos) (tIfD t ta tb) :=
  ⟨fun ρ P P' k => hc.mono _ _ _ fun c h => mono_ite h (ha.mono _ _ _ k) (hb.mono _ _ _ k), pe_imp (pe_ifExp hc.run ha.run hb.run) fun σ H Q ⟨F, O, ρ, R, q⟩ => ⟨F, O, ρ, R, hc.mono _ _ _ (fun c k H' F' s R' =>
    mono_ite k (fun k => ⟨F', O, ρ, R', ha.mono _ _ _ (fun d k2 v H2 F2 s2 R2 r2 => k2 v H2 F2 (s.trans s2) R2 r2) k⟩) fun k => ⟨F', O, ρ, R', hb.mono _ _ _ (fun d k2 v H2 F2 s2 R2 r2 => k2 v H2 F2 (s.trans s2) R2 r2) k⟩) q⟩⟩
/-- a and b, a or b, not a as values: bools -/
def tAndV (ta tb : TED) : TED := fun ρ P => ta ρ fun d => isB d fun c => if c = true then tb ρ P else P (.bool false)
def tOrV (ta tb : TED) : TED := fun ρ P => ta ρ fun d => isB d fun c => if c = true then P (.bool true) else tb ρ P
def tNotV (ta : TED) : TED := fun ρ P => ta ρ fun d => isB d fun c => P (.bool (!c))
theorem pd_one {op : BoolOp} (h : PD X C a ta) : PD X C (.BoolOp op [a] pos) ta := ⟨h.mono, pe_one h.run⟩
theorem pd_and (ha : PD X C a ta) (hb : PD X C (.BoolOp .And (b :: rest) pos) tb) : PD X C (.BoolOp .And (a :: b :: rest) pos) (tAndV ta tb) :=
  ⟨fun ρ P P' k => ha.mono _ _ _ fun d => mono_isB fun c h => mono_ite h (hb.mono _ _ _ k) (k _), pe_imp (pe_and ha.run hb.run) fun σ H Q ⟨F, O, ρ, R, q⟩ => ⟨F, O, ρ, R, ha.mono _ _ _ (fun d k v H' F' s R' r => by
    obtain ⟨b, e, hb'⟩ := rdd_isB r k
    exact ⟨b, e, mono_ite hb' (fun k => ⟨F', O, ρ, R', hb.mono _ _ _ (fun d k2 v H2 F2 s2 R2 r2 => k2 v H2 F2 (s.trans s2) R2 r2) k⟩) fun k => k _ H' F' s R' rfl⟩) q⟩⟩
theorem pd_or (ha : PD X C a ta) (hb : PD X C (.BoolOp .Or (b :: rest) pos) tb) : PD X C (.BoolOp .Or (a :: b :: rest) pos) (tOrV ta tb) :=
  ⟨fun ρ P P' k => ha.mono _ _ _ fun d => mono_isB fun c h => mono_ite h (k _) (hb.mono _ _ _ k), pe_imp (pe_or ha.run hb.run) fun σ H Q ⟨F, O, ρ, R, q⟩ => ⟨F, O, ρ, R, ha.mono _ _ _ (fun d k v H' F' s R' r => by
    obtain ⟨b, e, hb'⟩ := rdd_isB r k
    exact ⟨b, e, mono_ite hb' (fun k => k _ H' F' s R' rfl) fun k => ⟨F', O, ρ, R', hb.mono _ _ _ (fun d k2 v H2 F2 s2 R2 r2 => k2 v H2 F2 (s.trans s2) R2 r2) k⟩⟩) q⟩⟩
theorem pd_not (ha : PD X C a ta) : PD X C (.UnaryOp .Not a pos) (tNotV ta) :=
  ⟨fun ρ P P' k => ha.mono _ _ _ fun d => mono_isB fun c => k _, pe_imp (pe_not ha.run) fun σ H Q ⟨F, O, ρ, R, q⟩ => ⟨F, O, ρ, R, ha.mono _ _ _ (fun d k v H' F' s R' r => by
    obtain ⟨b, e, hb⟩ := rdd_isB r k
    exact ⟨b, e, hb _ H' F' s R' rfl⟩) q⟩⟩
end

/-! ### names, constants -/
def tValD (i : Nat) : TED := fun ρ P => match ρ[i]? with
  | some (.val d) => P d
  | _ => False
def tOwnD (i : Nat) : TED := fun ρ P => match ρ[i]? with
  | some (.own ds) => P (.list ds)
  | _ => False
def tCD (d : D) : TED := fun _ P => P d
section
variable {X : Cx} {C : Ct}
theorem pd_var {i : Nat} {x : Str} {pos : Pos} (hN : X.N[i]? = some x := by rfl) (hv : Vis X.env.scope x := by first | exact Or.inl rfl | exact Or.inr (Or.inl rfl) | exact Or.inr (Or.inr rfl)) (hd : (x == ("__debug__" : Str)) = false := by decide)
    (hcd : (x == ("__classdict__" : Str)) = false := by decide) : PD X C (.Name x pos) (tValD i) := by
  refine ⟨fun ρ P P' k h => ?_, pe_imp (pe_var hN hv hd hcd) fun σ H Q ⟨F, O, ρ, R, q⟩ => ?_⟩
  · unfold tValD at h ⊢
    split at h
    · exact k _ h
    · exact h
  · unfold tValD at q
    split at q
    · rename_i d e
      obtain ⟨v, e1, r⟩ := R.sl i _ e
      exact ⟨v, e1, q v H F (Stp.refl _ _ _) R r⟩
    · exact q.elim
theorem po_own {i : Nat} {x : Str} {pos : Pos} (hN : X.N[i]? = some x := by rfl) (hv : Vis X.env.scope x := by first | exact Or.inl rfl | exact Or.inr (Or.inl rfl) | exact Or.inr (Or.inr rfl)) (hd : (x == ("__debug__" : Str)) = false := by decide)
    (hcd : (x == ("__classdict__" : Str)) = false := by decide) : PO X C (.Name x pos) (tOwnD i) := by
  refine ⟨fun ρ P P' k h => ?_, pe_imp (pe_var hN hv hd hcd) fun σ H Q ⟨F, O, ρ, R, q⟩ => ?_⟩
  · unfold tOwnD at h ⊢
    split at h
    · exact k _ h
    · exact h
  · unfold tOwnD at q
    split at q
    · rename_i ds e
      obtain ⟨a, vs, e1, ha, hl, r⟩ := R.sl i _ e
      exact ⟨_, e1, q _ H F (Stp.refl _ _ _) R ⟨a, vs, rfl, .inr ⟨i, ha⟩, hl, r⟩⟩
    · exact q.elim
theorem pd_c {e : Expr} {v : V} {d : D} (h : PE X e (tC v)) (r : ∀ K F H, Rdd K F H d v) : PD X C e (tCD d) :=
  ⟨fun ρ P P' k h => k _ h, pe_imp h fun σ H Q ⟨F, O, ρ, R, q⟩ => q v H F (Stp.refl _ _ _) R (r _ _ _)⟩
theorem pd_int {i : Int} {j pos} : PD X C (.Constant (.int i) j pos) (tCD (.int i)) := pd_c pe_int fun _ _ _ => rfl
theorem pd_bl {b : Bool} {j pos} : PD X C (.Constant (.bool b) j pos) (tCD (.bool b)) := pd_c pe_bl fun _ _ _ => rfl
theorem pd_non {j pos} : PD X C (.Constant .none j pos) (tCD .none) := pd_c pe_non fun _ _ _ => rfl
theorem pd_str {x : Str} {j pos} : PD X C (.Constant (.str x) j pos) (tCD (.str x)) := pd_c pe_str fun _ _ _ => rfl
end
end DL

namespace DL
open PySem PySem.Spec PyProof.Rows L2

class RRc (R : PySem.W.Frag → RR) : Prop where
  back : ∀ {K : PySem.W.Frag} {F : Addr → Prop} {O : Fps} {H₀ H₁ H : Hp} {d : D} {v : V} {q : Dq}, KpX q H₀ H₁ → R K F O H₁ H d v → R K F O H₀ H d v
instance : RRc rE := ⟨fun _ h => h⟩
instance : RRc rO := ⟨fun _ h => h⟩
instance : RRc rF := ⟨fun {K F O H₀ H₁ H d v q} k h => by
  cases d with
  | list ds => obtain ⟨a, vs, e, n, r⟩ := h; exact ⟨a, vs, e, k.free n, r⟩
  | _ => exact h.elim⟩

section
variable {K : PySem.W.Frag} {C : Ct} {F F' : Addr → Prop} {O : Fps} {ρ : List Slot} {σ : L2.St} {H H' : Hp} {d : D} {v : V} {ds : List D} {vs : List V}
/-- an operand stays -/
theorem rO_stp (R : Rel K C F O ρ σ H) (s : Stp C.q F F' H H') (h : rO K F O H H d v) : rO K F' O H' H' d v := by
  cases d with
  | list ds =>
    obtain ⟨a, vs, e, ha, hl, hr⟩ := h
    have k : a ≠ C.q.p ∧ a ≠ C.q.l := by
      rcases ha with ha | ⟨i, ha⟩
      · exact ⟨(R.fz a ha).1, (R.fz a ha).2.1⟩
      · exact ⟨(R.oo i a ha).2.1, (R.oo i a ha).2.2.1⟩
    exact ⟨a, vs, e, ha.imp (s.up a) id, s.kp.kp a _ hl k.1 k.2 (fun ps z => nomatch z), hr.stpR R s⟩
  | _ => exact Rdd.stpR R s h
theorem new_tup (R : Rel K C F O ρ σ H) (r : RdL K F H ds vs) {p : Addr} (n : H p = none) :
    Stp C.q F F H (upd H p (.tup vs)) ∧ Rel K C F O ρ σ (upd H p (.tup vs)) ∧ Rdd K F (upd H p (.tup vs)) (.tuple ds) (.ref p) :=
  ⟨Stp.new n, R.new n, p, vs, rfl, SqT.of upd_same, r.stpR R (Stp.new n)⟩
theorem new_lst (R : Rel K C F O ρ σ H) (r : RdL K F H ds vs) {p : Addr} (n : H p = none) :
    Stp C.q F F H (upd H p (.lst vs)) ∧ Rel K C F O ρ σ (upd H p (.lst vs)) ∧ rF K F O H (upd H p (.lst vs)) (.list ds) (.ref p) :=
  ⟨Stp.new n, R.new n, p, vs, rfl, Nn.of n, (R.np (Nn.of n)).2.2.2.1, (R.np (Nn.of n)).2.2.2.2, upd_same, r.stpR R (Stp.new n)⟩
end

/-! ### operations by values -/
def By1 (X : Cx) (C : Ct) (Rr : PySem.W.Frag → RR) (r : V → Hp → VK → Prop) (g : D → (D → Prop) → Prop) : Prop :=
  ∀ {F : Addr → Prop} {O : Fps} {ρ : List Slot} {σ : L2.St} {H : Hp} {x : D} {v : V} {Q : VK}, Rel X.K C F O ρ σ H → rO X.K F O H H x v →
    g x (fun z => ∀ vz H' F', Stp C.q F F' H H' → Rel X.K C F' O ρ σ H' → Rr X.K F' O H H' z vz → Q vz H') → r v H Q
def By2 (X : Cx) (C : Ct) (Rr : PySem.W.Frag → RR) (r : R2) (g : D → D → (D → Prop) → Prop) : Prop :=
  ∀ {F : Addr → Prop} {O : Fps} {ρ : List Slot} {σ : L2.St} {H : Hp} {x y : D} {v u : V} {Q : VK}, Rel X.K C F O ρ σ H → rO X.K F O H H x v → rO X.K F O H H y u →
    g x y (fun z => ∀ vz H' F', Stp C.q F F' H H' → Rel X.K C F' O ρ σ H' → Rr X.K F' O H H' z vz → Q vz H') → r v u H Q
def dUn (g : D → (D → Prop) → Prop) (te : TED) : TED := fun ρ P => te ρ fun x => g x P
def dBi (g : D → D → (D → Prop) → Prop) (ta tb : TED) : TED := fun ρ P => ta ρ fun x => tb ρ fun y => g x y P
def Mo1 (g : D → (D → Prop) → Prop) : Prop := ∀ x (P P' : D → Prop), (∀ d, P d → P' d) → g x P → g x P'
def Mo2 (g : D → D → (D → Prop) → Prop) : Prop := ∀ x y (P P' : D → Prop), (∀ d, P d → P' d) → g x y P → g x y P'
section
variable {X : Cx} {C : Ct} {Rr : PySem.W.Frag → RR} [RRc Rr] {e a b e' : Expr} {te ta tb : TED}
theorem pv_1 {r : V → Hp → VK → Prop} {g : D → (D → Prop) → Prop} (hp : ∀ {t : TE}, PE X e t → PE X e' (tUn r t)) (h : By1 X C Rr r g) (mg : Mo1 g) (ha : PO X C e te) : PV Rr X C e' (dUn g te) :=
  ⟨fun ρ P P' k => ha.mono _ _ _ fun d => mg _ _ _ k, pe_imp (hp ha.run) fun σ H Q ⟨F, O, ρ, R, q⟩ => ⟨F, O, ρ, R, ha.mono _ _ _ (fun x k v H1 F1 s1 R1 r1 =>
    h R1 r1 (mg _ _ _ (fun z kz vz H2 F2 s2 R2 r2 => kz vz H2 F2 (s1.trans s2) R2 (RRc.back s1.kp r2)) k)) q⟩⟩
theorem pv_2 {r : R2} {g : D → D → (D → Prop) → Prop} (hp : ∀ {t u : TE}, PE X a t → PE X b u → PE X e' (tOp r t u)) (h : By2 X C Rr r g) (mg : Mo2 g) (ha : PO X C a ta) (hb : PO X C b tb) : PV Rr X C e' (dBi g ta tb) :=
  ⟨fun ρ P P' k => ha.mono _ _ _ fun d => hb.mono _ _ _ fun d' => mg _ _ _ _ k, pe_imp (hp ha.run hb.run) fun σ H Q ⟨F, O, ρ, R, q⟩ => ⟨F, O, ρ, R, ha.mono _ _ _ (fun x k v H1 F1 s1 R1 r1 =>
    ⟨F1, O, ρ, R1, hb.mono _ _ _ (fun y k2 u H2 F2 s2 R2 r2 => h R2 (rO_stp R1 s2 r1) r2 (mg _ _ _ _ (fun z kz vz H3 F3 s3 R3 r3 => kz vz H3 F3 ((s1.trans s2).trans s3) R3 (RRc.back (s1.trans s2).kp r3)) k2)) k⟩) q⟩⟩
theorem By2.or {r r' : R2} {g : D → D → (D → Prop) → Prop} {sel : D → D → Bool} (h : By2 X C Rr r fun x y P => sel x y = true ∧ g x y P) (h' : By2 X C Rr r' fun x y P => sel x y = false ∧ g x y P) : By2 X C Rr (fun x y H Q => r x y H Q ∨ r' x y H Q) g :=
  fun {F O ρ σ H x y v u Q} R rx ry q => by
    cases e : sel x y with
    | true => exact .inl (h R rx ry ⟨e, q⟩)
    | false => exact .inr (h' R rx ry ⟨e, q⟩)
end

/-! ints -/
def gI (c : Int → Int → Prop) (f : Int → Int → D) : D → D → (D → Prop) → Prop
  | .int i, .int j, P => c i j ∧ P (f i j)
  | _, _, _ => False
theorem mo_gI {c : Int → Int → Prop} {f : Int → Int → D} : Mo2 (gI c f) := fun x y P P' k h => by
  cases x <;> first | exact h.elim | (cases y <;> first | exact h.elim | exact ⟨h.1, k _ h.2⟩)
theorem by_I {X : Cx} {C : Ct} {c : Int → Int → Prop} {f : Int → Int → D} {g : Int → Int → V} (hf : ∀ K F H i j, Rdd K F H (f i j) (g i j)) : By2 X C rE (rI c g) (gI c f) :=
  fun {F O ρ σ H x y v u Q} R rx ry h => by
    cases x <;> first | exact h.elim | skip
    cases y <;> first | exact h.elim | skip
    exact ⟨_, _, rx, ry, h.1, h.2 _ _ _ (Stp.refl _ _ _) R (hf _ _ _ _ _)⟩
def gI0 (f : Int → Int → D) : D → D → (D → Prop) → Prop
  | .int i, .int j, P => P (f i j)
  | _, _, _ => False
theorem mo_gI0 {f : Int → Int → D} : Mo2 (gI0 f) := fun x y P P' k h => by
  cases x <;> first | exact h.elim | (cases y <;> first | exact h.elim | exact k _ h)
theorem by_I0 {X : Cx} {C : Ct} {f : Int → Int → D} {g : Int → Int → V} (hf : ∀ K F H i j, Rdd K F H (f i j) (g i j)) : By2 X C rE (rI0 g) (gI0 f) :=
  fun {F O ρ σ H x y v u Q} R rx ry h => by
    cases x <;> first | exact h.elim | skip
    cases y <;> first | exact h.elim | skip
    exact ⟨_, _, rx, ry, h _ _ _ (Stp.refl _ _ _) R (hf _ _ _ _ _)⟩
/-! + of ints, texts, tuples -/
def gAdd : D → D → (D → Prop) → Prop
  | .int i, .int j, P => P (.int (i + j))
  | .str a, .str b, P => a.length + b.length ≤ sizeLine ∧ P (.str (a ++ b))
  | .tuple xs, .tuple ys, P => xs.length + ys.length ≤ sizeLine ∧ P (.tuple (xs ++ ys))
  | _, _, _ => False
theorem mo_gAdd : Mo2 gAdd := fun x y P P' k h => by
  cases x <;> first | exact h.elim | (cases y <;> first | exact h.elim | exact k _ h | exact ⟨h.1, k _ h.2⟩)
def gCat : D → D → (D → Prop) → Prop
  | .list xs, .list ys, P => xs.length + ys.length ≤ sizeLine ∧ P (.list (xs ++ ys))
  | _, _, _ => False
theorem mo_gCat : Mo2 gCat := fun x y P P' k h => by
  cases x <;> first | exact h.elim | (cases y <;> first | exact h.elim | exact ⟨h.1, k _ h.2⟩)
section
variable {X : Cx} {C : Ct}
def rAddAll (K : PySem.W.Frag) : R2 := fun x y H Q => (∃ i j, x = .int i ∧ y = .int j ∧ Q (.int (i + j)) H) ∨ (∃ i j, x = .str i ∧ y = .str j ∧ i.length + j.length ≤ sizeLine ∧ Q (.str (i ++ j)) H) ∨ rCatA K x y H Q
theorem op_addAll : OpR X (binaryOp .Add) (rAddAll X.K) := op_add.or (op_add_str.or op_catA)
theorem by_add : By2 X C rE (rAddAll X.K) gAdd := fun {F O ρ σ H x y v u Q} R rx ry h => by
  cases x <;> first | exact h.elim | skip
  · cases y <;> first | exact h.elim | skip
    exact .inl ⟨_, _, rx, ry, h _ _ _ (Stp.refl _ _ _) R rfl⟩
  · cases y <;> first | exact h.elim | skip
    exact .inr (.inl ⟨_, _, rx, ry, h.1, h.2 _ _ _ (Stp.refl _ _ _) R rfl⟩)
  · cases y <;> first | exact h.elim | skip
    rename_i xs ys
    obtain ⟨a, vs, e1, t1, r1⟩ := rx
    obtain ⟨b, us, e2, t2, r2⟩ := ry
    refine .inr (.inr ⟨a, b, vs, us, e1, e2, t1, t2, by rw [r1.len, r2.len]; exact h.1, fun z => ?_, fun _ z => ?_, fun _ _ p n => ?_⟩)
    · refine h.2 _ _ _ (Stp.refl _ _ _) R ⟨b, us, rfl, t2, ?_⟩
      have : xs = [] := List.length_eq_zero_iff.mp (by rw [← r1.len, z]; rfl)
      rw [this]; exact r2
    · refine h.2 _ _ _ (Stp.refl _ _ _) R ⟨a, vs, rfl, t1, ?_⟩
      have : ys = [] := List.length_eq_zero_iff.mp (by rw [← r2.len, z]; rfl)
      rw [this, List.append_nil]; exact r1
    · obtain ⟨s, R', r⟩ := new_tup R (r1.append r2) n
      exact h.2 _ _ _ s R' r
theorem by_cat : By2 X C rF rCat gCat := fun {F O ρ σ H x y v u Q} R rx ry h => by
  cases x <;> first | exact h.elim | skip
  cases y <;> first | exact h.elim | skip
  obtain ⟨a, vs, e1, _, t1, r1⟩ := rx
  obtain ⟨b, us, e2, _, t2, r2⟩ := ry
  refine ⟨a, b, vs, us, e1, e2, t1, t2, by rw [r1.len, r2.len]; exact h.1, fun p n => ?_⟩
  obtain ⟨s, R', r⟩ := new_lst R (r1.append r2) n
  exact h.2 _ _ _ s R' r
variable {a b : Expr} {ta tb : TED} {pos : Pos}
theorem pd_add (ha : PO X C a ta) (hb : PO X C b tb) : PD X C (.BinOp a .Add b pos) (dBi gAdd ta tb) := pv_2 (pe_op op_addAll) by_add mo_gAdd ha hb
theorem pf_cat (ha : PO X C a ta) (hb : PO X C b tb) : PF X C (.BinOp a .Add b pos) (dBi gCat ta tb) := pv_2 (pe_op op_cat) by_cat mo_gCat ha hb
abbrev gSub := gI0 fun i j => .int (i - j)
theorem pd_sub (ha : PO X C a ta) (hb : PO X C b tb) : PD X C (.BinOp a .Sub b pos) (dBi gSub ta tb) := pv_2 (pe_op op_sub) (by_I0 fun _ _ _ _ _ => by exact rfl) mo_gI0 ha hb
abbrev gMul := gI CMulW fun i j => .int (i * j)
theorem pd_mul (ha : PO X C a ta) (hb : PO X C b tb) : PD X C (.BinOp a .Mult b pos) (dBi gMul ta tb) := pv_2 (pe_op op_mulW) (by_I fun _ _ _ _ _ => by exact rfl) mo_gI ha hb
abbrev gDiv := gI CDivW fun i j => .int (i / j)
theorem pd_div (ha : PO X C a ta) (hb : PO X C b tb) : PD X C (.BinOp a .FloorDiv b pos) (dBi gDiv ta tb) := pv_2 (pe_op op_fdivW) (by_I fun _ _ _ _ _ => by exact rfl) mo_gI ha hb
abbrev gMod := gI (fun _ j => 0 < j) fun i j => .int (i % j)
theorem pd_mod (ha : PO X C a ta) (hb : PO X C b tb) : PD X C (.BinOp a .Mod b pos) (dBi gMod ta tb) := pv_2 (pe_op op_mod) (by_I fun _ _ _ _ _ => by exact rfl) mo_gI ha hb
abbrev gPow := gI CPow fun i j => .int (i ^ j.toNat)
theorem pd_pow (ha : PO X C a ta) (hb : PO X C b tb) : PD X C (.BinOp a .Pow b pos) (dBi gPow ta tb) := pv_2 (pe_op op_pow) (by_I fun _ _ _ _ _ => by exact rfl) mo_gI ha hb
abbrev gAnd := gI0 fun i j => .int (Builtin.bitAnd i j)
theorem pd_and_i (ha : PO X C a ta) (hb : PO X C b tb) : PD X C (.BinOp a .BitAnd b pos) (dBi gAnd ta tb) := pv_2 (pe_op op_and) (by_I0 fun _ _ _ _ _ => by exact rfl) mo_gI0 ha hb
def gNeg : D → (D → Prop) → Prop
  | .int i, P => P (.int (-i))
  | _, _ => False
theorem mo_gNeg : Mo1 gNeg := fun x P P' k h => by cases x <;> first | exact h.elim | exact k _ h
theorem pd_neg (ha : PO X C a ta) : PD X C (.UnaryOp .USub a pos) (dUn gNeg ta) := pv_1 (pe_un un_neg) (fun {F O ρ σ H x v Q} R rx h => by
  cases x <;> first | exact h.elim | skip
  exact ⟨_, rx, h _ _ _ (Stp.refl _ _ _) R rfl⟩) mo_gNeg ha
/-! comparisons of ints -/
abbrev gLt := gI0 fun i j => .bool (decide (i < j))
abbrev gLe := gI0 fun i j => .bool (decide (i ≤ j))
abbrev gGt := gI0 fun i j => .bool (decide (j < i))
abbrev gGe := gI0 fun i j => .bool (decide (j ≤ i))
theorem pd_lt (ha : PO X C a ta) (hb : PO X C b tb) : PD X C (.Compare a [.Lt] [b] pos) (dBi gLt ta tb) := pv_2 (fun h h' => pe_cmpR op_lt h h' (nomark _)) (by_I0 fun _ _ _ _ _ => by exact rfl) mo_gI0 ha hb
theorem pd_le (ha : PO X C a ta) (hb : PO X C b tb) : PD X C (.Compare a [.LtE] [b] pos) (dBi gLe ta tb) := pv_2 (fun h h' => pe_cmpR op_le h h' (nomark _)) (by_I0 fun _ _ _ _ _ => by exact rfl) mo_gI0 ha hb
theorem pd_gt (ha : PO X C a ta) (hb : PO X C b tb) : PD X C (.Compare a [.Gt] [b] pos) (dBi gGt ta tb) := pv_2 (fun h h' => pe_cmpR op_gt h h' (nomark _)) (by_I0 fun _ _ _ _ _ => by exact rfl) mo_gI0 ha hb
theorem pd_ge (ha : PO X C a ta) (hb : PO X C b tb) : PD X C (.Compare a [.GtE] [b] pos) (dBi gGe ta tb) := pv_2 (fun h h' => pe_cmpR op_ge h h' (nomark _)) (by_I0 fun _ _ _ _ _ => by exact rfl) mo_gI0 ha hb
/-! == and != of flat things: none, bools, ints, texts -/
def gEqS (neg : Bool) : D → D → (D → Prop) → Prop
  | .int i, .int j, P => P (.bool (if neg then !decide (i = j) else decide (i = j)))
  | .str i, .str j, P => P (.bool (if neg then !decide (i = j) else decide (i = j)))
  | .bool i, .bool j, P => P (.bool (if neg then !decide (i = j) else decide (i = j)))
  | _, _, _ => False
theorem mo_gEqS {neg : Bool} : Mo2 (gEqS neg) := fun x y P P' k h => by
  cases x <;> first | exact h.elim | (cases y <;> first | exact h.elim | exact k _ h)
theorem by_eqS : By2 X C rE rEq (gEqS false) := fun {F O ρ σ H x y v u Q} R rx ry h => by
  cases x <;> first | exact h.elim | (cases y <;> first | exact h.elim | skip)
  all_goals
    cases rx; cases ry
    refine ⟨rfl, ?_⟩
    refine h _ _ _ (Stp.refl _ _ _) R ?_
    simp [rE, Rdd]
theorem by_neS : By2 X C rE rNe (gEqS true) := fun {F O ρ σ H x y v u Q} R rx ry h => by
  cases x <;> first | exact h.elim | (cases y <;> first | exact h.elim | skip)
  all_goals
    cases rx; cases ry
    refine ⟨rfl, ?_⟩
    refine h _ _ _ (Stp.refl _ _ _) R ?_
    simp [rE, Rdd]
theorem pd_eqS (ha : PO X C a ta) (hb : PO X C b tb) : PD X C (.Compare a [.Eq] [b] pos) (dBi (gEqS false) ta tb) := pv_2 (fun h h' => pe_cmpR op_eq h h' (nomark _)) by_eqS mo_gEqS ha hb
theorem pd_neS (ha : PO X C a ta) (hb : PO X C b tb) : PD X C (.Compare a [.NotEq] [b] pos) (dBi (gEqS true) ta tb) := pv_2 (fun h h' => pe_cmpR op_ne h h' (nomark _)) by_neS mo_gEqS ha hb
/-! x is None -/
def gIsN (neg : Bool) : D → (D → Prop) → Prop := fun x P => P (.bool (match x with | .none => !neg | _ => neg))
end
end DL

namespace DL
open PySem PySem.Spec PyProof.Rows L2

/-! ### items and slices -/
section
variable {K : PySem.W.Frag} {S : Addr → Prop} {H : Hp} {ds : List D} {vs : List V}
theorem RdL.atI {i : Int} {d : D} (r : RdL K S H ds vs) (h : atI ds i = some d) : ∃ v, L2.atI vs i = some v ∧ Rdd K S H d v := by
  unfold L2.atI at h ⊢
  rw [r.len]
  cases e : ixN ds.length i with
  | none => rw [e] at h; cases h
  | some j =>
    rw [e] at h
    exact r.get h
def cutD (ds : List D) (lo hi : Option Int) : List D := (ds.drop (HT.sIx ds.length 0 lo)).take (HT.sIx ds.length ds.length hi - HT.sIx ds.length 0 lo)
theorem RdL.cut (r : RdL K S H ds vs) (lo hi : Option Int) : RdL K S H (cutD ds lo hi) (cutV vs lo hi) := by
  unfold cutD cutV
  rw [r.len]
  exact (r.drop _).take _
end
def gIx : D → D → (D → Prop) → Prop
  | .list ds, .int i, P => ∃ d, L2.atI ds i = some d ∧ P d
  | .tuple ds, .int i, P => ∃ d, L2.atI ds i = some d ∧ P d
  | .str z, .int i, P => z.length ≤ sizeLine ∧ ∃ c, L2.atI z.cps.toList i = some c ∧ P (.str ⟨#[c]⟩)
  | _, _, _ => False
theorem mo_gIx : Mo2 gIx := fun x y P P' k h => by
  cases x <;> first | exact h.elim | (cases y <;> first | exact h.elim | skip)
  · exact ⟨h.1, h.2.choose, h.2.choose_spec.1, k _ h.2.choose_spec.2⟩
  · exact ⟨h.choose, h.choose_spec.1, k _ h.choose_spec.2⟩
  · exact ⟨h.choose, h.choose_spec.1, k _ h.choose_spec.2⟩
section
variable {X : Cx} {C : Ct} {a b e : Expr} {ta tb te : TED} {pos p p2 : Pos}
theorem by_ix : By2 X C rE (rIx X.K) gIx := fun {F O ρ σ H x y v u Q} R rx ry h => by
  cases x <;> first | exact h.elim | (cases y <;> first | exact h.elim | skip)
  · obtain ⟨h1, c, ec, h2⟩ := h
    exact .inr (.inr ⟨_, _, _, rx, ry, h1, ec, h2 _ _ _ (Stp.refl _ _ _) R rfl⟩)
  · obtain ⟨d, ed, h⟩ := h
    obtain ⟨a, vs, e1, _, t1, r1⟩ := rx
    obtain ⟨z, ez, rz⟩ := r1.atI ed
    exact .inl ⟨a, vs, _, z, e1, ry, SqL.of t1, ez, h _ _ _ (Stp.refl _ _ _) R rz⟩
  · obtain ⟨d, ed, h⟩ := h
    obtain ⟨a, vs, e1, t1, r1⟩ := rx
    obtain ⟨z, ez, rz⟩ := r1.atI ed
    exact .inr (.inl ⟨a, vs, _, z, e1, ry, t1, ez, h _ _ _ (Stp.refl _ _ _) R rz⟩)
theorem pd_ix (ha : PO X C a ta) (hb : PO X C b tb) (hs : PlainIx b := by exact fun _ _ => rfl) : PD X C (.Subscript a b pos) (dBi gIx ta tb) := pv_2 (fun h h' => pe_ix ix_seq h h' hs) by_ix mo_gIx ha hb

/-! slices a[lo:hi] -/
abbrev TOD := List Slot → (Option Int → Prop) → Prop
def liftP (K : PySem.W.Frag) (C : Ct) (t : TOD) : L2.TO := fun σ H Q => ∃ F O ρ, Rel K C F O ρ σ H ∧ t ρ fun o => ∀ H' F', Stp C.q F F' H H' → Rel K C F' O ρ σ H' → Q o H'
structure DP (X : Cx) (C : Ct) (e : Option Expr) (t : TOD) : Prop where
  mono : ∀ ρ (P P' : Option Int → Prop), (∀ o, P o → P' o) → t ρ P → t ρ P'
  run : L2.PO X e (liftP X.K C t)
def isI : D → (Int → Prop) → Prop
  | .int i, P => P i
  | _, _ => False
def oNone : TOD := fun _ P => P none
def oSome (te : TED) : TOD := fun ρ P => te ρ fun d => isI d fun i => P (some i)
theorem po_imp {o : Option Expr} {t t' : L2.TO} (h : L2.PO X o t) (i : ∀ σ H Q, t' σ H Q → t σ H Q) : L2.PO X o t' := ⟨fun pins s σ H Q I q => h.run pins s σ H Q I (i σ H Q q)⟩
theorem dp_none : DP X C none oNone := ⟨fun _ _ _ k h => k _ h, po_imp po_none fun σ H Q ⟨F, O, ρ, R, q⟩ => q H F (Stp.refl _ _ _) R⟩
theorem dp_some (h : PD X C e te) : DP X C (some e) (oSome te) :=
  ⟨fun ρ P P' k => h.mono _ _ _ fun d hd => by cases d <;> first | exact hd.elim | exact k _ hd, po_imp (po_some h.run) fun σ H Q ⟨F, O, ρ, R, q⟩ => ⟨F, O, ρ, R, h.mono _ _ _ (fun d k v H' F' s R' r => by
    cases d <;> first | exact k.elim | exact ⟨_, r, k H' F' s R'⟩) q⟩⟩
def gSlT : D → Option Int → Option Int → (D → Prop) → Prop
  | .tuple ds, lo, hi, P => P (.tuple (cutD ds lo hi))
  | .str z, lo, hi, P => z.length ≤ sizeLine ∧ P (.str (cutS z lo hi))
  | _, _, _, _ => False
def gSlL : D → Option Int → Option Int → (D → Prop) → Prop
  | .list ds, lo, hi, P => P (.list (cutD ds lo hi))
  | _, _, _, _ => False
def dSl (g : D → Option Int → Option Int → (D → Prop) → Prop) (te : TED) (tl th : TOD) : TED := fun ρ P => te ρ fun x => tl ρ fun l => th ρ fun u => g x l u P
def BySl (X : Cx) (C : Ct) (Rr : PySem.W.Frag → RR) (r : V → Option Int → Option Int → Hp → VK → Prop) (g : D → Option Int → Option Int → (D → Prop) → Prop) : Prop :=
  ∀ {F : Addr → Prop} {O : Fps} {ρ : List Slot} {σ : L2.St} {H : Hp} {x : D} {v : V} {l u : Option Int} {Q : VK}, Rel X.K C F O ρ σ H → rO X.K F O H H x v →
    g x l u (fun z => ∀ vz H' F', Stp C.q F F' H H' → Rel X.K C F' O ρ σ H' → Rr X.K F' O H H' z vz → Q vz H') → r v l u H Q
theorem pv_sl {Rr : PySem.W.Frag → RR} [RRc Rr] {r : V → Option Int → Option Int → Hp → VK → Prop} {g : D → Option Int → Option Int → (D → Prop) → Prop} {lo hi : Option Expr} {tl th : TOD} (hr : SlR X r) (h : BySl X C Rr r g)
    (mg : ∀ x l u (P P' : D → Prop), (∀ d, P d → P' d) → g x l u P → g x l u P') (he : PO X C e te) (hl : DP X C lo tl) (hu : DP X C hi th) : PV Rr X C (.Subscript e (.Slice lo hi none p2) pos) (dSl g te tl th) :=
  ⟨fun ρ P P' k => he.mono _ _ _ fun d => hl.mono _ _ _ fun l => hu.mono _ _ _ fun u => mg _ _ _ _ _ k, pe_imp (pe_slice hr he.run hl.run hu.run) fun σ H Q ⟨F, O, ρ, R, q⟩ => ⟨F, O, ρ, R, he.mono _ _ _ (fun x k v H1 F1 s1 R1 r1 =>
    ⟨F1, O, ρ, R1, hl.mono _ _ _ (fun l k2 H2 F2 s2 R2 => ⟨F2, O, ρ, R2, hu.mono _ _ _ (fun u k3 H3 F3 s3 R3 =>
      h R3 (rO_stp R1 (s2.trans s3) r1) (mg _ _ _ _ _ (fun z kz vz H4 F4 s4 R4 r4 => kz vz H4 F4 (((s1.trans s2).trans s3).trans s4) R4 (RRc.back ((s1.trans s2).trans s3).kp r4)) k3)) k2⟩) k⟩) q⟩⟩
theorem pd_slT {lo hi : Option Expr} {tl th : TOD} (he : PO X C e te) (hl : DP X C lo tl) (hu : DP X C hi th) : PD X C (.Subscript e (.Slice lo hi none p2) pos) (dSl gSlT te tl th) :=
  pv_sl (sl_tupA.or sl_str) (fun {F O ρ σ H x v l u Q} R rx h => by
    cases x <;> first | exact h.elim | skip
    · exact .inr ⟨_, rx, h.1, h.2 _ _ _ (Stp.refl _ _ _) R rfl⟩
    · obtain ⟨a, vs, e1, t1, r1⟩ := rx
      refine .inl ⟨a, vs, e1, t1, fun z => ?_, fun _ p n => ?_⟩
      · refine h _ _ _ (Stp.refl _ _ _) R ⟨a, vs, rfl, t1, ?_⟩
        have : cutV vs l u = vs := by
          unfold cutV
          rw [z.1, z.2, List.drop_zero, Nat.sub_zero, List.take_length]
        have r2 := r1.cut l u
        rw [this] at r2
        exact r2
      · obtain ⟨s, R', r⟩ := new_tup R (r1.cut l u) n
        exact h _ _ _ s R' r) (fun x l u P P' k h => by cases x <;> first | exact h.elim | exact k _ h | exact ⟨h.1, k _ h.2⟩) he hl hu
theorem pf_slL {lo hi : Option Expr} {tl th : TOD} (he : PO X C e te) (hl : DP X C lo tl) (hu : DP X C hi th) : PF X C (.Subscript e (.Slice lo hi none p2) pos) (dSl gSlL te tl th) :=
  pv_sl sl_list (fun {F O ρ σ H x v l u Q} R rx h => by
    cases x <;> first | exact h.elim | skip
    obtain ⟨a, vs, e1, _, t1, r1⟩ := rx
    refine ⟨a, vs, e1, SqL.of t1, fun p n => ?_⟩
    obtain ⟨s, R', r⟩ := new_lst R (r1.cut l u) n
    exact h _ _ _ s R' r) (fun x l u P P' k h => by cases x <;> first | exact h.elim | exact k _ h) he hl hu
/-! xs[::-1] of a list -/
def gRevL : D → (D → Prop) → Prop
  | .list ds, P => P (.list ds.reverse)
  | _, _ => False
theorem mo_gRevL : Mo1 gRevL := fun x P P' k h => by cases x <;> first | exact h.elim | exact k _ h
theorem pf_revL {k : Nat} {p1 p3 : Pos} (he : PO X C e te) : PF X C (.Subscript e (.Slice none none (some (.UnaryOp .USub (.Constant (.int 1) k p1) p2)) p3) pos) (dUn gRevL te) :=
  pv_1 (r := fun x H Q => ∃ a xs, x = .ref a ∧ SqL X.K H a xs ∧ ∀ p, H p = none → Q (.ref p) (upd H p (.lst xs.reverse))) pe_revL (fun {F O ρ σ H x v Q} R rx h => by
    cases x <;> first | exact h.elim | skip
    obtain ⟨a, vs, e1, _, t1, r1⟩ := rx
    refine ⟨a, vs, e1, SqL.of t1, fun p n => ?_⟩
    obtain ⟨s, R', r⟩ := new_lst R r1.rev n
    exact h _ _ _ s R' r) mo_gRevL he

/-! ### displays -/
abbrev TLD := List Slot → (List D → Prop) → Prop
def liftL (K : PySem.W.Frag) (C : Ct) (t : TLD) : TA := fun σ H Q => ∃ F O ρ, Rel K C F O ρ σ H ∧ t ρ fun ds => ∀ vs H' F', Stp C.q F F' H H' → Rel K C F' O ρ σ H' → RdL K F' H' ds vs → Q vs H'
structure DS (X : Cx) (C : Ct) (es : List Expr) (t : TLD) : Prop where
  mono : ∀ ρ (P P' : List D → Prop), (∀ d, P d → P' d) → t ρ P → t ρ P'
  run : PA X es (liftL X.K C t)
def lNil : TLD := fun _ P => P []
def lCons (te : TED) (tl : TLD) : TLD := fun ρ P => te ρ fun d => tl ρ fun ds => P (d :: ds)
variable {es : List Expr} {tl : TLD}
theorem ds_nil : DS X C [] lNil := ⟨fun _ _ _ k h => k _ h, pa_imp pa_nil fun σ H Q ⟨F, O, ρ, R, q⟩ => q [] H F (Stp.refl _ _ _) R rfl⟩
theorem ds_cons (h : PD X C e te) (ha : DS X C es tl) (hs : starEach (e :: es) X.env = (false, eval e X.env) :: starEach es X.env := by rfl) : DS X C (e :: es) (lCons te tl) :=
  ⟨fun ρ P P' k => h.mono _ _ _ fun d => ha.mono _ _ _ fun as => k _, pa_imp (pa_cons h.run ha.run hs) fun σ H Q ⟨F, O, ρ, R, q⟩ =>
    ⟨F, O, ρ, R, h.mono _ _ _ (fun d k v H1 F1 s1 R1 r1 => ⟨F1, O, ρ, R1, ha.mono _ _ _ (fun as k2 vs H2 F2 s2 R2 r2 => k2 _ H2 F2 (s1.trans s2) R2 ⟨v, vs, rfl, Rdd.stpR R1 s2 r1, r2⟩) k⟩) q⟩⟩
def dTup (tl : TLD) : TED := fun ρ P => tl ρ fun ds => ds.length ≤ sizeLine ∧ P (.tuple ds)
def dLst (tl : TLD) : TED := fun ρ P => tl ρ fun ds => ds.length ≤ sizeLine ∧ P (.list ds)
theorem pd_tup {x1} (h : DS X C es tl) : PD X C (.Tuple es x1 pos) (dTup tl) :=
  ⟨fun ρ P P' k => h.mono _ _ _ fun ds z => ⟨z.1, k _ z.2⟩, pe_imp (pe_tup h.run) fun σ H Q ⟨F, O, ρ, R, q⟩ => ⟨F, O, ρ, R, h.mono _ _ _ (fun ds k vs H1 F1 s1 R1 r1 => ⟨by rw [r1.len]; exact k.1, fun p n => by
    obtain ⟨s, R', r⟩ := new_tup R1 r1 n
    exact k.2 _ _ _ (s1.trans s) R' r⟩) q⟩⟩
theorem pf_lst (h : DS X C es tl) : PF X C (.List es pos) (dLst tl) :=
  ⟨fun ρ P P' k => h.mono _ _ _ fun ds z => ⟨z.1, k _ z.2⟩, pe_imp (pe_lst h.run) fun σ H Q ⟨F, O, ρ, R, q⟩ => ⟨F, O, ρ, R, h.mono _ _ _ (fun ds k vs H1 F1 s1 R1 r1 => ⟨by rw [r1.len]; exact k.1, fun p n => by
    obtain ⟨s, R', r⟩ := new_lst R1 r1 n
    exact k.2 _ _ _ (s1.trans s) R' (RRc.back (R := rF) s1.kp r)⟩) q⟩⟩

/-! ### built-ins of one argument -/
theorem pv_b1 {Rr : PySem.W.Frag → RR} [RRc Rr] {id : String} {r : List V → Hp → VK → Prop} {g : D → (D → Prop) → Prop} {x : Str} (hc : CallR X (.builtin id) r) (h : By1 X C Rr (fun v => r [v]) g) (mg : Mo1 g) (hg : Gl X x) (hm : X.mg x = none) (hv : bootBuiltins x = some (.builtin id)) (he : PO X C e te)
    (hn : x ≠ "__name__" := by decide) (hdb : (x == ("__debug__" : Str)) = false := by decide) (hs : starEach [e] X.env = (false, eval e X.env) :: starEach [] X.env := by rfl) : PV Rr X C (.Call (.Name x p) [e] [] pos) (dUn g te) :=
  pv_1 (fun h => pe_imp (pe_callB hc hg hm hv (pa_cons h pa_nil hs) hn hdb hs) fun σ H Q q => q) h mg he
theorem pv_t1 {Rr : PySem.W.Frag → RR} [RRc Rr] {id : String} {r : List V → Hp → VK → Prop} {g : D → (D → Prop) → Prop} {x : Str} (hc : CallR X (.type id) r) (h : By1 X C Rr (fun v => r [v]) g) (mg : Mo1 g) (hg : Gl X x) (hm : X.mg x = none) (hv : bootBuiltins x = some (.type id)) (he : PO X C e te)
    (hn : x ≠ "__name__" := by decide) (hdb : (x == ("__debug__" : Str)) = false := by decide) (hs : starEach [e] X.env = (false, eval e X.env) :: starEach [] X.env := by rfl) : PV Rr X C (.Call (.Name x p) [e] [] pos) (dUn g te) :=
  pv_1 (fun h => pe_imp (pe_callTy hc hg hm hv (pa_cons h pa_nil hs) hn hdb hs) fun σ H Q q => q) h mg he
/-! len -/
def gLen : D → (D → Prop) → Prop
  | .list ds, P => P (.int ds.length)
  | .tuple ds, P => P (.int ds.length)
  | .str z, P => z.length ≤ sizeLine ∧ P (.int z.length)
  | _, _ => False
theorem mo_gLen : Mo1 gLen := fun x P P' k h => by cases x <;> first | exact h.elim | exact k _ h | exact ⟨h.1, k _ h.2⟩
theorem pd_len (hg : Gl X "len") (hm : X.mg "len" = none) (he : PO X C e te) (hs : starEach [e] X.env = (false, eval e X.env) :: starEach [] X.env := by rfl) : PD X C (.Call (.Name "len" p) [e] [] pos) (dUn gLen te) :=
  pv_b1 call_len (fun {F O ρ σ H x v Q} R rx h => by
    cases x <;> first | exact h.elim | skip
    · rename_i z
      refine ⟨v, z.length, rfl, ?_, h.2 _ _ _ (Stp.refl _ _ _) R rfl⟩
      cases rx
      exact ⟨h.1, rfl⟩
    · obtain ⟨a, vs, e1, _, t1, r1⟩ := rx
      refine ⟨v, vs.length, rfl, ?_, by rw [r1.len]; exact h _ _ _ (Stp.refl _ _ _) R rfl⟩
      rw [e1]
      exact .inl ⟨vs, SqL.of t1, rfl⟩
    · obtain ⟨a, vs, e1, t1, r1⟩ := rx
      refine ⟨v, vs.length, rfl, ?_, by rw [r1.len]; exact h _ _ _ (Stp.refl _ _ _) R rfl⟩
      rw [e1]
      exact .inr ⟨vs, t1, rfl⟩) mo_gLen hg hm PySem.boot_len he (hs := hs)
/-! abs, int, str of an int -/
def gAbs : D → (D → Prop) → Prop
  | .int i, P => P (.int (if i < 0 then -i else i))
  | _, _ => False
theorem mo_gAbs : Mo1 gAbs := fun x P P' k h => by cases x <;> first | exact h.elim | exact k _ h
theorem pd_abs (hg : Gl X "abs") (hm : X.mg "abs" = none) (he : PO X C e te) (hs : starEach [e] X.env = (false, eval e X.env) :: starEach [] X.env := by rfl) : PD X C (.Call (.Name "abs" p) [e] [] pos) (dUn gAbs te) :=
  pv_b1 call_abs (fun {F O ρ σ H x v Q} R rx h => by
    cases x <;> first | exact h.elim | skip
    exact ⟨_, by rw [show v = _ from rx], h _ _ _ (Stp.refl _ _ _) R rfl⟩) mo_gAbs hg hm (by decide +kernel) he (hs := hs)
def gInt : D → (D → Prop) → Prop
  | .int i, P => P (.int i)
  | .bool b, P => P (.int (if b then 1 else 0))
  | _, _ => False
theorem mo_gInt : Mo1 gInt := fun x P P' k h => by cases x <;> first | exact h.elim | exact k _ h
theorem pd_int1 (hg : Gl X "int") (hm : X.mg "int" = none) (he : PO X C e te) (hs : starEach [e] X.env = (false, eval e X.env) :: starEach [] X.env := by rfl) : PD X C (.Call (.Name "int" p) [e] [] pos) (dUn gInt te) :=
  pv_t1 call_int1 (fun {F O ρ σ H x v Q} R rx h => by
    cases x <;> first | exact h.elim | skip
    · exact .inr ⟨_, by rw [show v = _ from rx], h _ _ _ (Stp.refl _ _ _) R rfl⟩
    · exact .inl ⟨_, by rw [show v = _ from rx], h _ _ _ (Stp.refl _ _ _) R rfl⟩) mo_gInt hg hm (by decide +kernel) he (hs := hs)
def gStr : D → (D → Prop) → Prop
  | .int i, P => i.natAbs.log2 < 1920 ∧ P (.str (toString i))
  | _, _ => False
theorem mo_gStr : Mo1 gStr := fun x P P' k h => by cases x <;> first | exact h.elim | exact ⟨h.1, k _ h.2⟩
theorem pd_str1 (hg : Gl X "str") (hm : X.mg "str" = none) (he : PO X C e te) (hs : starEach [e] X.env = (false, eval e X.env) :: starEach [] X.env := by rfl) : PD X C (.Call (.Name "str" p) [e] [] pos) (dUn gStr te) :=
  pv_t1 call_str_int (fun {F O ρ σ H x v Q} R rx h => by
    cases x <;> first | exact h.elim | skip
    exact ⟨_, by rw [show v = _ from rx], h.1, h.2 _ _ _ (Stp.refl _ _ _) R rfl⟩) mo_gStr hg hm (by decide +kernel) he (hs := hs)
/-! list(x), tuple(x) of a list or a tuple -/
def gList : D → (D → Prop) → Prop
  | .list ds, P => P (.list ds)
  | .tuple ds, P => P (.list ds)
  | _, _ => False
theorem mo_gList : Mo1 gList := fun x P P' k h => by cases x <;> first | exact h.elim | exact k _ h
theorem pf_list (hg : Gl X "list") (hm : X.mg "list" = none) (he : PO X C e te) (hs : starEach [e] X.env = (false, eval e X.env) :: starEach [] X.env := by rfl) : PF X C (.Call (.Name "list" p) [e] [] pos) (dUn gList te) :=
  pv_t1 call_list_of (fun {F O ρ σ H x v Q} R rx h => by
    cases x <;> first | exact h.elim | skip
    · obtain ⟨a, vs, e1, _, t1, r1⟩ := rx
      refine ⟨a, vs, by rw [e1], .inl (SqL.of t1), fun p n => ?_⟩
      obtain ⟨s, R', r⟩ := new_lst R r1 n
      exact h _ _ _ s R' r
    · obtain ⟨a, vs, e1, t1, r1⟩ := rx
      refine ⟨a, vs, by rw [e1], .inr t1, fun p n => ?_⟩
      obtain ⟨s, R', r⟩ := new_lst R r1 n
      exact h _ _ _ s R' r) mo_gList hg hm (by decide +kernel) he (hs := hs)
def gTuple : D → (D → Prop) → Prop
  | .list ds, P => P (.tuple ds)
  | .tuple ds, P => P (.tuple ds)
  | _, _ => False
theorem mo_gTuple : Mo1 gTuple := fun x P P' k h => by cases x <;> first | exact h.elim | exact k _ h
theorem pd_tuple (hg : Gl X "tuple") (hm : X.mg "tuple" = none) (he : PO X C e te) (hs : starEach [e] X.env = (false, eval e X.env) :: starEach [] X.env := by rfl) : PD X C (.Call (.Name "tuple" p) [e] [] pos) (dUn gTuple te) :=
  pv_t1 call_tuple_of (fun {F O ρ σ H x v Q} R rx h => by
    cases x <;> first | exact h.elim | skip
    · obtain ⟨a, vs, e1, _, t1, r1⟩ := rx
      refine ⟨a, vs, by rw [e1], .inl ⟨SqL.of t1, fun p n => ?_⟩⟩
      obtain ⟨s, R', r⟩ := new_tup R r1 n
      exact h _ _ _ s R' r
    · obtain ⟨a, vs, e1, t1, r1⟩ := rx
      exact ⟨a, vs, by rw [e1], .inr ⟨t1, h _ _ _ (Stp.refl _ _ _) R ⟨a, vs, rfl, t1, r1⟩⟩⟩) mo_gTuple hg hm (by decide +kernel) he (hs := hs)
end
end DL

namespace DL
open PySem PySem.Spec PyProof.Rows L2

/-! ### statements -/
/-- what statements keep: the frozen, the tuples -/
structure FSt (F F' : Addr → Prop) (H H' : Hp) : Prop where
  up : ∀ a, F a → F' a
  fk : ∀ a o, F a → H a = some o → H' a = some o
  tk : ∀ a xs, H a = some (.tup xs) → H' a = some (.tup xs)
  zk : ∀ a o u, H a = some (.frz o u) → H' a = some (.frz o u)
theorem FSt.refl (F : Addr → Prop) (H : Hp) : FSt F F H H := ⟨fun _ h => h, fun _ _ _ h => h, fun _ _ h => h, fun _ _ _ h => h⟩
theorem FSt.trans {F F1 F2 : Addr → Prop} {H H1 H2 : Hp} (a : FSt F F1 H H1) (b : FSt F1 F2 H1 H2) : FSt F F2 H H2 :=
  ⟨fun c h => b.up c (a.up c h), fun c o h e => b.fk c o (a.up c h) (a.fk c o h e), fun c xs e => b.tk c xs (a.tk c xs e), fun c o u e => b.zk c o u (a.zk c o u e)⟩
section
variable {K : PySem.W.Frag} {q : Dq} {C : Ct} {F F' : Addr → Prop} {O : Fps} {ρ : List Slot} {σ : L2.St} {H H' : Hp} {d : D} {v : V} {ds : List D} {vs : List V}
theorem FSt.of (R : Rel K C F O ρ σ H) (s : Stp C.q F F' H H') : FSt F F' H H' := by
  obtain ⟨cells, m, n, h1, h2, _⟩ := R.dk
  have key : ∀ a o, H a = some o → (∀ kvs, o ≠ .dK kvs) → (∀ xs, o ≠ .lst xs) → (∀ ps, o ≠ .tbl ps) → H' a = some o := fun a o e n1 n2 n3 =>
    s.kp.kp a o e (fun z => by rw [z, h1] at e; exact n1 _ (Option.some.inj e).symm) (fun z => by rw [z, h2] at e; exact n2 _ (Option.some.inj e).symm) n3
  exact ⟨s.up, fun a o ha e => s.kp.kp a o e (R.fz a ha).1 (R.fz a ha).2.1 fun ps z => (R.fz a ha).2.2.2 ps (by rw [e, z]),
    fun a xs e => key a _ e (fun _ z => nomatch z) (fun _ z => nomatch z) (fun _ z => nomatch z), fun a o u e => key a _ e (fun _ z => nomatch z) (fun _ z => nomatch z) (fun _ z => nomatch z)⟩
theorem FSt.seq (s : FSt F F' H H') {a : Addr} {xs : List V} (h : SqT K H a xs) : SqT K H' a xs := by
  rcases h with (h | ⟨o, h⟩) | h
  · exact .inl (.inl (s.tk _ _ h))
  · exact .inl (.inr ⟨o, s.zk _ _ _ h⟩)
  · exact .inr h
theorem Rdd.fst (s : FSt F F' H H') (h : Rdd K F H d v) : Rdd K F' H' d v := Rdd.keep s.up (fun _ _ => s.seq) s.fk d v h
theorem RdL.fst (s : FSt F F' H H') (h : RdL K F H ds vs) : RdL K F' H' ds vs := RdL.keep s.up (fun _ _ => s.seq) s.fk ds vs h
end
structure EndsD where
  nx : List Slot → Prop
  rt : D → Prop
  bk : List Slot → Prop := fun _ => False
  ct : List Slot → Prop := fun _ => False
abbrev TSD := EndsD → List Slot → Prop
structure EndsD.Le (D D' : EndsD) : Prop where
  nx : ∀ ρ, D.nx ρ → D'.nx ρ
  rt : ∀ d, D.rt d → D'.rt d
  bk : ∀ ρ, D.bk ρ → D'.bk ρ
  ct : ∀ ρ, D.ct ρ → D'.ct ρ
def dEnds (K : PySem.W.Frag) (C : Ct) (F : Addr → Prop) (H : Hp) (D : Ends) : EndsD where
  nx := fun ρ' => ∀ F' O' σ' H', FSt F F' H H' → Rel K C F' O' ρ' σ' H' → D.nx σ' H'
  rt := fun d => ∀ v F' O' ρ' σ' H', FSt F F' H H' → Rel K C F' O' ρ' σ' H' → Rdd K F' H' d v → D.rt v H'
  bk := fun ρ' => ∀ F' O' σ' H', FSt F F' H H' → Rel K C F' O' ρ' σ' H' → D.bk σ' H'
  ct := fun ρ' => ∀ F' O' σ' H', FSt F F' H H' → Rel K C F' O' ρ' σ' H' → D.ct σ' H'
def liftS (K : PySem.W.Frag) (C : Ct) (t : TSD) : TS := fun D σ H => ∃ F O ρ, Rel K C F O ρ σ H ∧ t (dEnds K C F H D) ρ
theorem dEnds_le {K : PySem.W.Frag} {C : Ct} {F F1 : Addr → Prop} {H H1 : Hp} {D : Ends} (s : FSt F F1 H H1) : EndsD.Le (dEnds K C F H D) (dEnds K C F1 H1 D) :=
  ⟨fun ρ h F' O' σ' H' s' R => h F' O' σ' H' (s.trans s') R, fun d h v F' O' ρ' σ' H' s' R r => h v F' O' ρ' σ' H' (s.trans s') R r, fun ρ h F' O' σ' H' s' R => h F' O' σ' H' (s.trans s') R, fun ρ h F' O' σ' H' s' R => h F' O' σ' H' (s.trans s') R⟩
def MonoS (t : TSD) : Prop := ∀ D D' ρ, EndsD.Le D D' → t D ρ → t D' ρ
structure PSD (X : Cx) (C : Ct) (st : Stmt) (t : TSD) : Prop where
  mono : MonoS t
  run : PS X st (liftS X.K C t)
structure PSDs (X : Cx) (C : Ct) (sts : List Stmt) (t : TSD) : Prop where
  mono : MonoS t
  run : PSs X sts (liftS X.K C t)
theorem ps_imp {X : Cx} {st : Stmt} {t t' : TS} (h : PS X st t) (i : ∀ D σ H, t' D σ H → t D σ H) : PS X st t' := ⟨fun pins s σ H D I q => h.run pins s σ H D I (i D σ H q)⟩
theorem pss_imp {X : Cx} {st : List Stmt} {t t' : TS} (h : PSs X st t) (i : ∀ D σ H, t' D σ H → t D σ H) : PSs X st t' := ⟨fun pins s σ H D I q => h.run pins s σ H D I (i D σ H q)⟩
def sNext : TSD := fun D ρ => D.nx ρ
def sSeq (t u : TSD) : TSD := fun D ρ => t { D with nx := u D } ρ
def sBreak : TSD := fun D ρ => D.bk ρ
def sCont : TSD := fun D ρ => D.ct ρ
def sRet (te : TED) : TSD := fun D ρ => te ρ D.rt
def sRetN : TSD := fun D _ => D.rt .none
def sDrop (te : TED) : TSD := fun D ρ => te ρ fun _ => D.nx ρ
def sIf (c : TTD) (t u : TSD) : TSD := fun D ρ => c ρ fun b => if b = true then t D ρ else u D ρ
def sSet (i : Nat) (te : TED) : TSD := fun D ρ => te ρ fun d => D.nx (ρ.set i (.val d))
def sSetF (i : Nat) (te : TED) : TSD := fun D ρ => te ρ fun d => match d with
  | .list ds => D.nx (ρ.set i (.own ds))
  | _ => False
section
variable {X : Cx} {C : Ct} {st : Stmt} {rest sts sts' : List Stmt} {t u : TSD} {e c : Expr} {te : TED} {tc : TTD} {pos : Pos}
theorem pssd_nil : PSDs X C [] sNext := ⟨fun D D' ρ l h => l.nx _ h, pss_imp pss_nil fun D σ H ⟨F, O, ρ, R, q⟩ => q F O σ H (FSt.refl _ _) R⟩
theorem pssd_cons (h1 : PSD X C st t) (h2 : PSDs X C rest u) : PSDs X C (st :: rest) (sSeq t u) :=
  ⟨fun D D' ρ l h => h1.mono { D with nx := u D } _ _ ⟨fun ρ' => h2.mono _ _ _ l, l.rt, l.bk, l.ct⟩ h, pss_imp (pss_cons h1.run h2.run) fun D σ H ⟨F, O, ρ, R, q⟩ =>
    ⟨F, O, ρ, R, h1.mono { dEnds X.K C F H D with nx := u (dEnds X.K C F H D) } _ _ ⟨fun ρ' k F' O' σ' H' s R' => ⟨F', O', ρ', R', h2.mono _ _ _ (dEnds_le s) k⟩, fun _ k => k, fun _ k => k, fun _ k => k⟩ q⟩⟩
theorem pssd_one (h1 : PSD X C st t) : PSDs X C [st] t := ⟨h1.mono, pss_one h1.run⟩
theorem psd_break : PSD X C (.Break pos) sBreak := ⟨fun D D' ρ l h => l.bk _ h, ps_imp ps_break fun D σ H ⟨F, O, ρ, R, q⟩ => q F O σ H (FSt.refl _ _) R⟩
theorem psd_cont : PSD X C (.Continue pos) sCont := ⟨fun D D' ρ l h => l.ct _ h, ps_imp ps_continue fun D σ H ⟨F, O, ρ, R, q⟩ => q F O σ H (FSt.refl _ _) R⟩
theorem psd_pass : PSD X C (.Pass pos) sNext := ⟨fun D D' ρ l h => l.nx _ h, ps_imp ps_pass fun D σ H ⟨F, O, ρ, R, q⟩ => q F O σ H (FSt.refl _ _) R⟩
theorem psd_ret (h : PD X C e te) : PSD X C (.Return (some e) pos) (sRet te) := ⟨fun D D' ρ l => h.mono _ _ _ l.rt, ps_imp (ps_ret h.run) fun D σ H ⟨F, O, ρ, R, q⟩ => ⟨F, O, ρ, R, h.mono _ _ _ (fun d k v H' F' s R' r => k v F' O ρ σ H' (FSt.of R s) R' r) q⟩⟩
theorem psd_retN : PSD X C (.Return none pos) sRetN := ⟨fun D D' ρ l => l.rt _, ps_imp ps_retN fun D σ H ⟨F, O, ρ, R, q⟩ => q _ F O ρ σ H (FSt.refl _ _) R rfl⟩
theorem psd_expr (h : PD X C e te) (hs : swapsWith e none pos.line X.env = pure false := by rfl) : PSD X C (.Expr e pos) (sDrop te) := ⟨fun D D' ρ l => h.mono _ _ _ fun _ => l.nx _, ps_imp (ps_expr h.run hs) fun D σ H ⟨F, O, ρ, R, q⟩ => ⟨F, O, ρ, R, h.mono _ _ _ (fun d k v H' F' s R' r => k F' O σ H' (FSt.of R s) R') q⟩⟩
theorem psd_if (hc : DT X C c tc) (ha : PSDs X C sts t) (hb : PSDs X C sts' u) : PSD X C (.If c sts sts' pos) (sIf tc t u) :=
  ⟨fun D D' ρ l => hc.mono _ _ _ fun b h => mono_ite h (ha.mono _ _ _ l) (hb.mono _ _ _ l), ps_imp (ps_if hc.run ha.run hb.run) fun D σ H ⟨F, O, ρ, R, q⟩ => ⟨F, O, ρ, R, hc.mono _ _ _ (fun b k H' F' s R' =>
    mono_ite k (fun k => ⟨F', O, ρ, R', ha.mono _ _ _ (dEnds_le (FSt.of R s)) k⟩) fun k => ⟨F', O, ρ, R', hb.mono _ _ _ (dEnds_le (FSt.of R s)) k⟩) q⟩⟩
theorem psd_never : PSD X C st fun _ _ => False := ⟨fun _ _ _ _ h => h, ps_imp ps_never fun D σ H ⟨F, O, ρ, R, q⟩ => q⟩
end

/-! ### stores -/
section
variable {K : PySem.W.Frag} {C : Ct} {F F' : Addr → Prop} {O : Fps} {ρ : List Slot} {σ : L2.St} {H H' : Hp} {d : D} {v : V} {ds : List D} {vs : List V}
theorem get_set {α : Type} {l : List α} {i j : Nat} {x y : α} (h : (l.set i x)[j]? = some y) : (j = i ∧ i < l.length ∧ y = x) ∨ (j ≠ i ∧ l[j]? = some y) := by
  by_cases e : i = j
  · subst e
    by_cases hl : i < l.length
    · rw [List.getElem?_set_self hl] at h
      exact .inl ⟨rfl, hl, (Option.some.inj h).symm⟩
    · rw [List.getElem?_eq_none (by simpa using Nat.le_of_not_lt hl)] at h
      cases h
  · rw [List.getElem?_set_ne e] at h
    exact .inr ⟨Ne.symm e, h⟩
/-- a slot takes a frozen thing -/
theorem Rel.setV (R : Rel K C F O ρ σ H) (i : Nat) (r : Rdd K F H d v) : Rel K C F O (ρ.set i (.val d)) (σ.set i (some v)) H where
  ln := by rw [List.length_set, List.length_set]; exact R.ln
  dk := R.dk
  tb := R.tb
  fz := R.fz
  kp := R.kp
  up := R.up
  nw := R.nw
  sl := fun j s e => by
    rcases get_set e with ⟨rfl, hl, rfl⟩ | ⟨hj, e⟩
    · exact ⟨v, by rw [List.getElem?_set_self (Nat.lt_of_lt_of_le hl R.ln)], r⟩
    · rw [List.getElem?_set_ne (Ne.symm hj)]
      exact R.sl j s e
  oo := R.oo
  dj := R.dj
theorem Rel.setRaw (R : Rel K C F O ρ σ H) (i : Nat) : Rel K C F O (ρ.set i (.raw v)) (σ.set i (some v)) H where
  ln := by rw [List.length_set, List.length_set]; exact R.ln
  dk := R.dk
  tb := R.tb
  fz := R.fz
  kp := R.kp
  up := R.up
  nw := R.nw
  sl := fun j s e => by
    rcases get_set e with ⟨rfl, hl, rfl⟩ | ⟨hj, e⟩
    · show (σ.set j (some v))[j]? = _
      rw [List.getElem?_set_self (Nat.lt_of_lt_of_le hl R.ln)]
    · rw [List.getElem?_set_ne (Ne.symm hj)]
      exact R.sl j s e
  oo := R.oo
  dj := R.dj
theorem Rel.setU (R : Rel K C F O ρ σ H) (i : Nat) (o : Option V) : Rel K C F O (ρ.set i .un) (σ.set i o) H where
  ln := by rw [List.length_set, List.length_set]; exact R.ln
  dk := R.dk
  tb := R.tb
  fz := R.fz
  kp := R.kp
  up := R.up
  nw := R.nw
  sl := fun j s e => by
    rcases get_set e with ⟨rfl, hl, rfl⟩ | ⟨hj, e⟩
    · exact True.intro
    · rw [List.getElem?_set_ne (Ne.symm hj)]
      exact R.sl j s e
  oo := R.oo
  dj := R.dj
def putO (O : Fps) (i : Nat) (l : List Addr) : Fps := fun j => if j = i then l else O j
/-- a slot takes a fresh list as its own -/
theorem Rel.setF (R : Rel K C F O ρ σ H) (i : Nat) {a : Addr} (h1 : ¬ F a) (h2 : ∀ j, a ∉ O j) (n1 : a ≠ C.q.p) (n2 : a ≠ C.q.l) (n3 : Nn C.H0 a) (hl : H a = some (.lst vs)) (r : RdL K F H ds vs) :
    Rel K C F (putO O i [a]) (ρ.set i (.own ds)) (σ.set i (some (.ref a))) H where
  ln := by rw [List.length_set, List.length_set]; exact R.ln
  dk := R.dk
  tb := R.tb
  fz := R.fz
  kp := R.kp
  up := R.up
  nw := R.nw
  sl := fun j s e => by
    rcases get_set e with ⟨rfl, hlt, rfl⟩ | ⟨hj, e⟩
    · refine ⟨a, vs, by rw [List.getElem?_set_self (Nat.lt_of_lt_of_le hlt R.ln)], ?_, hl, r⟩
      unfold putO
      rw [if_pos rfl]
      exact List.mem_singleton.mpr rfl
    · rw [List.getElem?_set_ne (Ne.symm hj)]
      have : putO O i [a] j = O j := if_neg hj
      rw [this]
      exact R.sl j s e
  oo := fun j b hb => by
    by_cases e : j = i
    · unfold putO at hb
      rw [if_pos e] at hb
      rw [List.mem_singleton.mp hb]
      exact ⟨h1, n1, n2, n3, by rw [hl]; simp, fun ps z => by rw [hl] at z; cases z⟩
    · unfold putO at hb
      rw [if_neg e] at hb
      exact R.oo j b hb
  dj := fun j k hjk b hb hb' => by
    unfold putO at hb hb'
    by_cases e : j = i
    · rw [if_pos e] at hb
      rw [if_neg (fun z => hjk (e.trans z.symm)), List.mem_singleton.mp hb] at hb'
      exact h2 k hb'
    · rw [if_neg e] at hb
      by_cases e' : k = i
      · rw [if_pos e', ] at hb'
        rw [List.mem_singleton.mp hb'] at hb
        exact h2 j hb
      · rw [if_neg e'] at hb'
        exact R.dj j k hjk b hb hb'
end
section
variable {X : Cx} {C : Ct} {i : Nat} {x : Str} {e : Expr} {te : TED} {pos pos' : Pos}
theorem psd_set (i : Nat) (hN : X.N.Nodup) (he : PD X C e te) (hi : X.N[i]? = some x := by rfl) (hx : Loc X.env.scope x := by first | exact Or.inl rfl | exact Or.inr rfl) (hs : swapsWith e (some (.Name x pos')) pos.line X.env = pure false := by rfl)
    (hf : X.fn x = true ∨ X.env.scope.names.lookup x = some .local := by first | exact .inl rfl | exact .inr rfl | assumption) : PSD X C (.Assign [.Name x pos'] e pos) (sSet i te) :=
  ⟨fun D D' ρ l => he.mono _ _ _ fun d => l.nx _, ps_imp (ps_set hN hi hx he.run hs hf) fun D σ H ⟨F, O, ρ, R, q⟩ => ⟨F, O, ρ, R, he.mono _ _ _ (fun d k v H' F' s R' r => k F' O _ H' (FSt.of R s) (R'.setV i r)) q⟩⟩
theorem psd_setF (i : Nat) (hN : X.N.Nodup) (he : PF X C e te) (hi : X.N[i]? = some x := by rfl) (hx : Loc X.env.scope x := by first | exact Or.inl rfl | exact Or.inr rfl) (hs : swapsWith e (some (.Name x pos')) pos.line X.env = pure false := by rfl)
    (hf : X.fn x = true ∨ X.env.scope.names.lookup x = some .local := by first | exact .inl rfl | exact .inr rfl | assumption) : PSD X C (.Assign [.Name x pos'] e pos) (sSetF i te) :=
  ⟨fun D D' ρ l => he.mono _ _ _ fun d h => by cases d <;> first | exact l.nx _ h | exact h.elim, ps_imp (ps_set hN hi hx he.run hs hf) fun D σ H ⟨F, O, ρ, R, q⟩ => ⟨F, O, ρ, R, he.mono _ _ _ (fun d k v H' F' s R' r => by
    cases d <;> first | exact r.elim | skip
    obtain ⟨a, vs, ea, n, h1, h2, h3, h4⟩ := r
    subst ea
    obtain ⟨n1, n2, n3, _, _⟩ := R.np n
    exact k F' _ _ H' (FSt.of R s) (R'.setF i h1 h2 n1 n2 n3 h3 h4)) q⟩⟩
end
end DL

namespace DL
open PySem PySem.Spec PyProof.Rows L2

/-! ### a cell is written that is not frozen -/
section
variable {K : PySem.W.Frag} {q : Dq} {C : Ct} {F F' : Addr → Prop} {O : Fps} {ρ : List Slot} {σ : L2.St} {H H' : Hp} {d : D} {v : V} {ds : List D} {vs : List V}
def Loose (u : HO) : Prop := (∃ xs, u = .lst xs) ∨ ∃ kvs, u = .dK kvs
theorem wr_tk {a : Addr} {o u : HO} (ho : H a = some o) (lo : Loose o) {b : Addr} {w : HO} (e : H b = some w) (nw : ¬ Loose w) : upd H a u b = some w := by
  refine (upd_ne fun z => ?_).trans e
  rw [z, ho] at e
  cases e
  exact nw lo
theorem FSt.wr {a : Addr} {o u : HO} (ho : H a = some o) (lo : Loose o) (nf : ¬ F a) : FSt F F H (upd H a u) :=
  ⟨fun _ h => h, fun b w hb e => (upd_ne fun (z : b = a) => nf (z ▸ hb)).trans e, fun b xs e => wr_tk ho lo e (by rintro (⟨_, z⟩ | ⟨_, z⟩) <;> cases z), fun b o u e => wr_tk ho lo e (by rintro (⟨_, z⟩ | ⟨_, z⟩) <;> cases z)⟩
theorem Tabs.wr {T : List (Addr × Str)} (ht : LamX.Tabs T H) {a : Addr} {o u : HO} (ho : H a = some o) (lo : Loose o) : LamX.Tabs T (upd H a u) := fun p hp => by
  obtain ⟨ps, h1, h2, h3⟩ := ht p hp
  refine ⟨ps, wr_tk ho lo h1 (by rintro (⟨_, z⟩ | ⟨_, z⟩) <;> cases z), h2, fun pos cv hc => ?_⟩
  obtain ⟨c, e1, e2⟩ := h3 pos cv hc
  exact ⟨c, e1, wr_tk ho lo e2 (by rintro (⟨_, z⟩ | ⟨_, z⟩) <;> (unfold LamX.CodeO at z; cases z))⟩
/-- what stands elsewhere stays -/
theorem SlotOk.wr {i : Nat} {s : Slot} {x : Option (Option V)} {a : Addr} {o u : HO} {p : Addr} {l : List Addr} (ho : H a = some o) (lo : Loose o) (nf : ¬ F a) (na : a ∉ l) (h : SlotOk K p F H l s x) : SlotOk K p F (upd H a u) l s x := by
  cases s with
  | un => exact True.intro
  | val d => obtain ⟨v, e, r⟩ := h; exact ⟨v, e, r.fst (FSt.wr ho lo nf)⟩
  | raw v => exact h
  | deck => exact h
  | own ds => obtain ⟨b, vs, e, hb, hl, r⟩ := h; exact ⟨b, vs, e, hb, (upd_ne fun (z : b = a) => na (z ▸ hb)).trans hl, r.fst (FSt.wr ho lo nf)⟩
theorem Rel.wr0 (R : Rel K C F O ρ σ H) {a : Addr} {o u : HO} (ho : H a = some o) (lo : Loose o) (lu : Loose u) (nf : ¬ F a) (n1 : a ≠ C.q.p) (n2 : a ≠ C.q.l) (n3 : Nn C.H0 a)
    (hs : ∀ i s, ρ[i]? = some s → SlotOk K C.q.p F (upd H a u) (O i) s (σ[i]?)) : Rel K C F O ρ σ (upd H a u) where
  ln := R.ln
  dk := by
    obtain ⟨cells, m, k, h1, h2, h3, ob, φ, h4⟩ := R.dk
    exact ⟨cells, m, k, (upd_ne (Ne.symm n1)).trans h1, (upd_ne (Ne.symm n2)).trans h2, h3, ob, φ, wr_tk ho lo h4 (by rintro (⟨_, z⟩ | ⟨_, z⟩) <;> cases z)⟩
  tb := Tabs.wr R.tb ho lo
  fz := fun b hb => by
    rw [upd_ne fun (z : b = a) => nf (z ▸ hb)]
    exact R.fz b hb
  kp := ⟨fun b w e h1 h2 h3 => (upd_ne fun z => n3.no (by rw [← z]; exact e) h3).trans (R.kp.kp b w e h1 h2 h3), fun b w e h => by
    by_cases z : b = a
    · exact absurd (n3.no (by rw [← z]; exact e) h) id
    · rw [upd_ne z]; exact R.kp.th b w e h⟩
  up := R.up
  nw := R.nw
  sl := hs
  oo := fun i b hb => by
    obtain ⟨h0, h1, h2, h3, h4, h5⟩ := R.oo i b hb
    refine ⟨h0, h1, h2, h3, ?_, fun ps z => ?_⟩
    · by_cases z : b = a
      · rw [z, upd_same]; simp
      · rw [upd_ne z]; exact h4
    · by_cases y : b = a
      · rw [y, upd_same] at z
        rcases lu with ⟨_, e⟩ | ⟨_, e⟩ <;> rw [e] at z <;> cases z
      · rw [upd_ne y] at z
        exact h5 ps z
  dj := R.dj
/-- a loose cell is written -/
theorem Rel.wr (R : Rel K C F O ρ σ H) {a : Addr} {o u : HO} (ho : H a = some o) (lo : Loose o) (lu : Loose u) (nf : ¬ F a) (n1 : a ≠ C.q.p) (n2 : a ≠ C.q.l) (n3 : Nn C.H0 a) (no : ∀ i, a ∉ O i) : Rel K C F O ρ σ (upd H a u) :=
  R.wr0 ho lo lu nf n1 n2 n3 fun i s e => (R.sl i s e).wr (i := i) ho lo nf (no i)
/-- an own list is written -/
theorem Rel.wrOwn (R : Rel K C F O ρ σ H) {i : Nat} {a : Addr} {xs : List V} {ds' : List D} {vs' : List V} (hi : ρ[i]? = some (.own ds)) (hσ : σ[i]? = some (some (.ref a))) (ha : a ∈ O i) (hl : H a = some (.lst xs)) (r : RdL K F H ds' vs') :
    Rel K C F O (ρ.set i (.own ds')) σ (upd H a (.lst vs')) := by
  obtain ⟨nf, n1, n2, n3, _, _⟩ := R.oo i a ha
  have lo : Loose (.lst xs) := .inl ⟨_, rfl⟩
  have R' : Rel K C F O (ρ.set i .un) σ H := by
    refine ⟨by rw [List.length_set]; exact R.ln, R.dk, R.tb, R.fz, R.kp, R.up, R.nw, fun j s e => ?_, R.oo, R.dj⟩
    rcases get_set e with ⟨rfl, _, rfl⟩ | ⟨_, e⟩
    · exact True.intro
    · exact R.sl j s e
  have R2 : Rel K C F O (ρ.set i .un) σ (upd H a (.lst vs')) := R'.wr0 hl lo (.inl ⟨_, rfl⟩) nf n1 n2 n3 fun j s e => by
    rcases get_set e with ⟨rfl, _, rfl⟩ | ⟨hj, e⟩
    · exact True.intro
    · exact (R.sl j s e).wr (i := j) hl lo nf fun z => R.dj i j (Ne.symm hj) a ha z
  refine ⟨by rw [List.length_set]; exact R.ln, R2.dk, R2.tb, R2.fz, R2.kp, R2.up, R2.nw, fun j s e => ?_, R2.oo, R2.dj⟩
  rcases get_set e with ⟨rfl, _, rfl⟩ | ⟨hj, e⟩
  · exact ⟨a, vs', hσ, ha, upd_same, r.fst (FSt.wr hl lo nf)⟩
  · exact R2.sl j s (by rw [List.getElem?_set_ne (Ne.symm hj)]; exact e)
/-- an own list becomes a frozen one -/
theorem Rel.freezeOwn (R : Rel K C F O ρ σ H) {i : Nat} (hi : ρ[i]? = some (.own ds)) : ∃ F' O', FSt F F' H H ∧ Rel K C F' O' (ρ.set i (.val (.list ds))) σ H := by
  obtain ⟨a, vs, e, ha, hl, r⟩ := R.sl i _ hi
  obtain ⟨nf, n1, n2, n3, n4, n5⟩ := R.oo i a ha
  have R1 : Rel K C F (putO O i []) (ρ.set i .un) σ H := by
    refine ⟨by rw [List.length_set]; exact R.ln, R.dk, R.tb, R.fz, R.kp, R.up, R.nw, fun j s e => ?_, fun j b hb => ?_, fun j k hjk b hb hb' => ?_⟩
    · rcases get_set e with ⟨rfl, _, rfl⟩ | ⟨hj, e⟩
      · exact True.intro
      · have : putO O i [] j = O j := if_neg hj
        rw [this]
        exact R.sl j s e
    · unfold putO at hb
      split at hb
      · cases hb
      · exact R.oo j b hb
    · unfold putO at hb hb'
      split at hb
      · cases hb
      · split at hb'
        · cases hb'
        · exact R.dj j k hjk b hb hb'
  have no : ∀ j, a ∉ putO O i [] j := fun j z => by
    unfold putO at z
    split at z
    · cases z
    · rename_i hj
      exact R.dj i j (Ne.symm hj) a ha z
  have R2 := R1.freeze n1 n2 n3 n4 n5 no
  refine ⟨fun b => F b ∨ b = a, putO O i [], ⟨fun b h => Or.inl h, fun _ _ _ h => h, fun _ _ h => h, fun _ _ _ h => h⟩, ?_⟩
  refine ⟨by rw [List.length_set]; exact R.ln, R2.dk, R2.tb, R2.fz, R2.kp, R2.up, R2.nw, fun j s e' => ?_, R2.oo, R2.dj⟩
  rcases get_set e' with ⟨rfl, _, rfl⟩ | ⟨hj, e'⟩
  · exact ⟨_, e, a, vs, rfl, .inr rfl, hl, RdL.keep (fun b => Or.inl) (fun _ _ z => z) (fun _ _ _ z => z) _ _ r⟩
  · exact R2.sl j s (by rw [List.getElem?_set_ne (Ne.symm hj)]; exact e')
end
/-! ### own lists: append, a store, freezing -/
def sAppend (i : Nat) (te : TED) : TSD := fun D ρ => match ρ[i]? with
  | some (.own ds) => te ρ fun d => ds.length < sizeLine ∧ D.nx (ρ.set i (.own (ds ++ [d])))
  | _ => False
def sStore (i : Nat) (te tk : TED) : TSD := fun D ρ => match ρ[i]? with
  | some (.own ds) => te ρ fun d => tk ρ fun k => isI k fun k => ∃ j, ixN ds.length k = some j ∧ D.nx (ρ.set i (.own (ds.set j d)))
  | _ => False
def sFreeze (i : Nat) (t : TSD) : TSD := fun D ρ => match ρ[i]? with
  | some (.own ds) => t D (ρ.set i (.val (.list ds)))
  | _ => False
theorem mono_isI {d : D} {P P' : Int → Prop} (k : ∀ b, P b → P' b) (h : isI d P) : isI d P' := by
  cases d <;> first | exact k _ h | exact h.elim
theorem rdd_isI {K : PySem.W.Frag} {F : Addr → Prop} {H : Hp} {d : D} {v : V} {P : Int → Prop} (r : Rdd K F H d v) (h : isI d P) : ∃ b, v = .int b ∧ P b := by
  cases d <;> first | exact ⟨_, r, h⟩ | exact h.elim
section
variable {X : Cx} {C : Ct} {i : Nat} {x : Str} {e ek : Expr} {te tk : TED} {t : TSD} {sts : List Stmt} {pos p p2 p3 : Pos}
/-- own[k] = e -/
theorem psd_store (i : Nat) (he : PD X C e te) (hk : PD X C ek tk) (hN : X.N[i]? = some x := by rfl) (hv : Vis X.env.scope x := by first | exact Or.inl rfl | exact Or.inr (Or.inl rfl) | exact Or.inr (Or.inr rfl)) (hd : (x == ("__debug__" : Str)) = false := by decide)
    (hcd : (x == ("__classdict__" : Str)) = false := by decide)
    (ha : ∀ v, assign (.Subscript (.Name x p) ek p2) X.env v = (do
      let ov ← holding [v] (eval (.Name x p) X.env)
      let iv ← holding [v, ov] (eval ek X.env)
      standAt p2
      holding [v, ov, iv] (setItem ov iv v)
      release [v, ov, iv] []) := by intro _; rfl)
    (hs : swapsWithSole [.Subscript (.Name x p) ek p2] e pos.line X.env = pure false := by rfl) (hw : swappedStores [.Subscript (.Name x p) ek p2] e X.env = pure none := by rfl)
    (h1 : (assignEach [.Subscript (.Name x p) ek p2] X.env).map (·.2) = [assign (.Subscript (.Name x p) ek p2) X.env] := by rfl) :
    PSD X C (.Assign [.Subscript (.Name x p) ek p2] e pos) (sStore i te tk) := by
  refine ⟨fun D D' ρ l h => ?_, ps_imp (ps_asg he.run (pg_sub (pe_var hN hv hd hcd) hk.run set_list ha) hs hw h1) fun D σ H ⟨F, O, ρ, R, q⟩ => ?_⟩
  · unfold sStore at h ⊢
    split at h
    · exact he.mono _ _ _ (fun d h => hk.mono _ _ _ (fun k h => mono_isI (fun k ⟨j, h1, h2⟩ => ⟨j, h1, l.nx _ h2⟩) h) h) h
    · exact h.elim
  · unfold sStore at q
    split at q
    · rename_i ds es
      obtain ⟨a, vs, e1, ha, hl, r⟩ := R.sl i _ es
      refine ⟨F, O, ρ, R, he.mono _ _ _ (fun d k v H1 F1 s1 R1 r1 => ?_) q⟩
      refine ⟨.ref a, e1, F1, O, ρ, R1, hk.mono _ _ _ (fun kd k2 u H2 F2 s2 R2 r2 => ?_) k⟩
      obtain ⟨n, rfl, j, hj, k3⟩ := rdd_isI r2 k2
      obtain ⟨a', vs1, e1', ha', hl', r'⟩ := R2.sl i _ es
      have ea : a' = a := by rw [e1] at e1'; cases e1'; rfl
      subst ea
      refine ⟨a', vs1, n, j, rfl, rfl, hl', by rw [r'.len]; exact hj, ?_⟩
      exact k3 F2 O σ _ ((FSt.of R s1).trans (FSt.of R1 s2) |>.trans (FSt.wr hl' (.inl ⟨_, rfl⟩) (R2.oo i a' ha').1)) (R2.wrOwn es e1' ha' hl' (r'.set j (r1.stpR R1 s2)))
    · exact q.elim
/-- an own list is own no more -/
theorem pssd_freeze (i : Nat) (h : PSDs X C sts t) : PSDs X C sts (sFreeze i t) := by
  refine ⟨fun D D' ρ l k => ?_, pss_imp h.run fun D σ H ⟨F, O, ρ, R, q⟩ => ?_⟩
  · unfold sFreeze at k ⊢
    split at k
    · exact h.mono _ _ _ l k
    · exact k.elim
  · unfold sFreeze at q
    split at q
    · rename_i ds es
      obtain ⟨F', O', s, R'⟩ := R.freezeOwn es
      exact ⟨F', O', _, R', h.mono _ _ _ (dEnds_le s) q⟩
    · exact q.elim
theorem psd_append (i : Nat) (he : PD X C e te) (hN : X.N[i]? = some x := by rfl) (hv : Vis X.env.scope x := by first | exact Or.inl rfl | exact Or.inr (Or.inl rfl) | exact Or.inr (Or.inr rfl)) (hd : (x == ("__debug__" : Str)) = false := by decide)
    (hcd : (x == ("__classdict__" : Str)) = false := by decide)
    (hbase : attributeBase (.Name x p) "append" X.env (eval (.Name x p) X.env) = eval (.Name x p) X.env := by rfl)
    (hfew : ((backTo p3 (starEach [e] X.env)).all (fun x => !x.1) && (backToKw p3 (keywordEach [] X.env)).all (fun x => x.1.isSome)
      && decide (([e] : List Expr).length + ([] : List Keyword).length + (if ([] : List Keyword).isEmpty then 0 else 1) < 30)) = true := by rfl)
    (hline : (p2.endLine == p3.line) = true := by rfl) (hs : starEach [e] X.env = (false, eval e X.env) :: starEach [] X.env := by rfl) (hsw : swapsWith (.Call (.Attribute (.Name x p) "append" p2) [e] [] p3) none pos.line X.env = pure false := by rfl) :
    PSD X C (.Expr (.Call (.Attribute (.Name x p) "append" p2) [e] [] p3) pos) (sAppend i te) := by
  refine ⟨fun D D' ρ l h => ?_, ps_imp (ps_expr (pe_bm PySem.F.plainAttrs_list PySem.F.slot_list_append PySem.F.type_list_append mt_append (pe_var hN hv hd hcd) (pa_cons he.run pa_nil hs) hbase hfew hline hs (by rfl)) hsw) fun D σ H ⟨F, O, ρ, R, q⟩ => ?_⟩
  · unfold sAppend at h ⊢
    split at h
    · exact he.mono _ _ _ (fun d h => ⟨h.1, l.nx _ h.2⟩) h
    · exact h.elim
  · unfold sAppend at q
    split at q
    · rename_i ds es
      obtain ⟨a, vs, e1, ha, hl, r⟩ := R.sl i _ es
      refine ⟨.ref a, e1, .inl ⟨rfl, vs, SqL.of hl⟩, F, O, ρ, R, he.mono _ _ _ (fun d k v H1 F1 s1 R1 r1 => ?_) q⟩
      obtain ⟨a', vs1, e1', ha', hl', r'⟩ := R1.sl i _ es
      have ea : a' = a := by rw [e1] at e1'; cases e1'; rfl
      subst ea
      refine ⟨a', vs1, v, rfl, rfl, hl', by rw [r'.len]; exact k.1, ?_⟩
      exact k.2 F1 O σ _ (FSt.of R s1 |>.trans (FSt.wr hl' (.inl ⟨_, rfl⟩) (R1.oo i a' ha').1)) (R1.wrOwn es e1' ha' hl' (r'.append ⟨v, [], rfl, r1, rfl⟩))
    · exact q.elim
end
end DL

namespace DL
open PySem PySem.Spec PyProof.Rows L2

/-! ### targets: a name, a tuple of names -/
inductive Tgt where
  | nm (i : Nat)
  | tup (is : List Nat)
def gNames : List Nat → TGs
  | [] => gNil
  | i :: is => gCons (gName i) (gNames is)
def gTgt (K : PySem.W.Frag) : Tgt → TG
  | .nm i => gName i
  | .tup is => gTup K is.length (gNames is)
def putAll : List Slot → List Nat → List D → List Slot
  | ρ, i :: is, d :: ds => putAll (ρ.set i (.val d)) is ds
  | ρ, _, _ => ρ
def bindT : Tgt → D → List Slot → (List Slot → Prop) → Prop
  | .nm i, d, ρ, P => P (ρ.set i (.val d))
  | .tup is, .tuple ds, ρ, P => ds.length = is.length ∧ P (putAll ρ is ds)
  | _, _, _, _ => False
def Tgt.ixs : Tgt → List Nat
  | .nm i => [i]
  | .tup is => is
theorem mono_bindT {t : Tgt} {d : D} {ρ : List Slot} {P P' : List Slot → Prop} (k : ∀ ρ, P ρ → P' ρ) (h : bindT t d ρ P) : bindT t d ρ P' := by
  cases t with
  | nm i => exact k _ h
  | tup is => cases d <;> first | exact h.elim | exact ⟨h.1, k _ h.2⟩
/-- σ' is σ but at those places -/
def But (is : List Nat) (σ σ' : L2.St) : Prop := σ'.length = σ.length ∧ ∀ j, j ∉ is → σ'[j]? = σ[j]?
theorem But.wipe {σ σ' : L2.St} {is : List Nat} (h : But is σ σ') (vs : List Nat) (hv : ∀ i ∈ is, i ∈ vs) : wipe σ' vs = wipe σ vs := by
  have key : ∀ (ws : List Nat) (j : Nat), (L2.wipe σ' ws)[j]? = if j ∈ ws ∧ j < σ'.length then some none else σ'[j]? := by
    intro ws
    induction ws with
    | nil => intro j; simp [L2.wipe]
    | cons w ws ih =>
      intro j
      unfold L2.wipe
      by_cases e : w = j
      · subst e
        by_cases hl : w < σ'.length
        · rw [List.getElem?_set_self (by rw [wipe_length]; exact hl)]; simp [hl]
        · rw [List.getElem?_eq_none (by rw [List.length_set, wipe_length]; omega)]
          rw [if_neg (by simp [hl]), List.getElem?_eq_none (by omega)]
      · rw [List.getElem?_set_ne e, ih]
        have : j ∈ w :: ws ↔ j ∈ ws := by simp [Ne.symm e]
        simp only [this]
  have key2 : ∀ (ws : List Nat) (j : Nat), (L2.wipe σ ws)[j]? = if j ∈ ws ∧ j < σ.length then some none else σ[j]? := by
    intro ws
    induction ws with
    | nil => intro j; simp [L2.wipe]
    | cons w ws ih =>
      intro j
      unfold L2.wipe
      by_cases e : w = j
      · subst e
        by_cases hl : w < σ.length
        · rw [List.getElem?_set_self (by rw [wipe_length]; exact hl)]; simp [hl]
        · rw [List.getElem?_eq_none (by rw [List.length_set, wipe_length]; omega)]
          rw [if_neg (by simp [hl]), List.getElem?_eq_none (by omega)]
      · rw [List.getElem?_set_ne e, ih]
        have : j ∈ w :: ws ↔ j ∈ ws := by simp [Ne.symm e]
        simp only [this]
  apply List.ext_getElem?
  intro j
  rw [key, key2, h.1]
  by_cases hj : j ∈ vs
  · by_cases hl : j < σ.length
    · simp [hj, hl]
    · rw [if_neg (by simp [hl]), if_neg (by simp [hl]), List.getElem?_eq_none (by rw [h.1]; omega), List.getElem?_eq_none (by omega)]
  · rw [if_neg (by simp [hj]), if_neg (by simp [hj]), h.2 j fun z => hj (hv j z)]
section
variable {K : PySem.W.Frag} {C : Ct} {F : Addr → Prop} {O : Fps} {ρ : List Slot} {σ : L2.St} {H : Hp} {d : D} {v : V}
theorem names_do (is : List Nat) : ∀ (ds : List D) (vs : List V) (ρ : List Slot) (σ : L2.St), Rel K C F O ρ σ H → RdL K F H ds vs → ds.length = is.length → ∀ {Q : L2.St → Hp → Prop},
    (∀ σ', But is σ σ' → Rel K C F O (putAll ρ is ds) σ' H → Q σ' H) → gNames is vs σ H Q := by
  induction is with
  | nil =>
    intro ds vs ρ σ R r hl Q k
    cases ds with
    | nil => exact ⟨r, k σ ⟨rfl, fun _ _ => rfl⟩ R⟩
    | cons d ds => cases hl
  | cons i is ih =>
    intro ds vs ρ σ R r hl Q k
    cases ds with
    | nil => cases hl
    | cons d ds =>
      obtain ⟨v, rest, e, r1, r2⟩ := r
      refine ⟨v, rest, e, ?_⟩
      refine ih ds rest (ρ.set i (.val d)) (σ.set i (some v)) (R.setV i r1) r2 (by simpa using hl) fun σ' b R' => k σ' ⟨by rw [b.1, List.length_set], fun j hj => ?_⟩ R'
      rw [b.2 j (fun z => hj (List.mem_cons_of_mem _ z)), List.getElem?_set_ne (fun (z : i = j) => hj (z ▸ List.mem_cons_self))]
theorem tgt_do {t : Tgt} (R : Rel K C F O ρ σ H) (r : Rdd K F H d v) {P : List Slot → Prop} (h : bindT t d ρ P) {Q : L2.St → Hp → Prop} (k : ∀ ρ' σ', But t.ixs σ σ' → Rel K C F O ρ' σ' H → P ρ' → Q σ' H) : gTgt K t v σ H Q := by
  cases t with
  | nm i => exact k _ _ ⟨by rw [List.length_set], fun j hj => List.getElem?_set_ne fun (z : i = j) => hj (List.mem_singleton.mpr z.symm)⟩ (R.setV i r) h
  | tup is =>
    cases d <;> first | exact h.elim | skip
    obtain ⟨a, vs, e, t1, r1⟩ := r
    exact ⟨a, vs, e, t1, by rw [r1.len]; exact h.1, names_do is _ vs ρ σ R r1 h.1 fun σ' b R' => k _ σ' b R' h.2⟩
end
/-! ### what is walked -/
structure Feed (K : PySem.W.Frag) (C : Ct) (J : It) (ds : List D) (F : Addr → Prop) (H : Hp) : Prop where
  go : ∀ i, i < ds.length → ∀ {F' O ρ σ H'}, FSt F F' H H' → Rel K C F' O ρ σ H' → J.go i H'
  stop : ∀ i, ds.length ≤ i → ∀ {F' O ρ σ H'}, FSt F F' H H' → Rel K C F' O ρ σ H' → J.stop i H'
  yld : ∀ i d, ds[i]? = some d → ∀ {F' O ρ σ H'}, FSt F F' H H' → Rel K C F' O ρ σ H' → ∀ x H'', J.yld i H' x H'' → Stp C.q F' F' H' H'' ∧ Rel K C F' O ρ σ H'' ∧ Rdd K F' H'' d x
abbrev TID := List Slot → (List D → Prop) → Prop
def liftI (K : PySem.W.Frag) (C : Ct) (t : TID) : TI := fun σ H Q => ∃ F O ρ, Rel K C F O ρ σ H ∧ t ρ fun ds => ∀ J H' F', Stp C.q F F' H H' → Rel K C F' O ρ σ H' → Feed K C J ds F' H' → Q J H'
structure DI (X : Cx) (C : Ct) (tg iter : Expr) (t : TID) : Prop where
  mono : ∀ ρ (P P' : List D → Prop), (∀ d, P d → P' d) → t ρ P → t ρ P'
  run : PI X tg iter (liftI X.K C t)
theorem pi_imp {X : Cx} {tg e : Expr} {t t' : TI} (h : PI X tg e t) (i : ∀ σ H Q, t' σ H Q → t σ H Q) : PI X tg e t' := ⟨fun pins s σ H R I q => h.run pins s σ H R I (i σ H R q)⟩
section
variable {K : PySem.W.Frag} {C : Ct} {F : Addr → Prop} {H : Hp} {ds es : List D} {vs us : List V} {a b : Addr}
theorem feed_list (fa : F a) (hl : H a = some (.lst vs)) (r : RdL K F H ds vs) : Feed K C (Itl K a) ds F H := by
  refine ⟨fun i hi F' O ρ σ H' s R => ?_, fun i hi F' O ρ σ H' s R => ?_, fun i d e F' O ρ σ H' s R x H'' y => ?_⟩
  · have hl' := s.fk a _ fa hl
    have : i < vs.length := by rw [r.len]; exact hi
    exact ⟨vs, vs[i], SqL.of hl', List.getElem?_eq_getElem this⟩
  · exact ⟨vs, SqL.of (s.fk a _ fa hl), by rw [r.len]; exact hi⟩
  · obtain ⟨e', y⟩ := y
    subst e'
    have z := y vs (SqL.of (s.fk a _ fa hl))
    obtain ⟨u, hu, hr⟩ := r.get e
    rw [hu] at z; cases z
    exact ⟨Stp.refl _ _ _, R, hr.fst s⟩
theorem feed_tup (hl : SqT K H a vs) (r : RdL K F H ds vs) : Feed K C (Itt K a) ds F H := by
  refine ⟨fun i hi F' O ρ σ H' s R => ?_, fun i hi F' O ρ σ H' s R => ?_, fun i d e F' O ρ σ H' s R x H'' y => ?_⟩
  · have : i < vs.length := by rw [r.len]; exact hi
    exact ⟨vs, vs[i], s.seq hl, List.getElem?_eq_getElem this⟩
  · exact ⟨vs, s.seq hl, by rw [r.len]; exact hi⟩
  · obtain ⟨e', y⟩ := y
    subst e'
    have z := y vs (s.seq hl)
    obtain ⟨u, hu, hr⟩ := r.get e
    rw [hu] at z; cases z
    exact ⟨Stp.refl _ _ _, R, hr.fst s⟩
def enumD (ds : List D) : List D := (List.range ds.length).map fun i => .tuple [.int (i : Nat), ds.getD i .none]
theorem enumD_len : (enumD ds).length = ds.length := by simp [enumD]
theorem enumD_get {i : Nat} {d : D} (h : (enumD ds)[i]? = some d) : ∃ x, ds[i]? = some x ∧ d = .tuple [.int (i : Nat), x] := by
  have hi : i < ds.length := by
    have := (List.getElem?_eq_some_iff.mp h).1
    rwa [enumD_len] at this
  unfold enumD at h
  rw [List.getElem?_map, List.getElem?_range hi] at h
  simp at h
  exact ⟨ds[i], List.getElem?_eq_getElem hi, by rw [← h]; simp [hi]⟩
theorem feed_enum (fa : F a) (hl : H a = some (.lst vs)) (r : RdL K F H ds vs) : Feed K C (Ite K a) (enumD ds) F H := by
  refine ⟨fun i hi F' O ρ σ H' s R => ?_, fun i hi F' O ρ σ H' s R => ?_, fun i d e F' O ρ σ H' s R x H'' y => ?_⟩
  · rw [enumD_len] at hi
    have : i < vs.length := by rw [r.len]; exact hi
    exact ⟨vs, vs[i], SqL.of (s.fk a _ fa hl), List.getElem?_eq_getElem this⟩
  · rw [enumD_len] at hi
    exact ⟨vs, SqL.of (s.fk a _ fa hl), by rw [r.len]; exact hi⟩
  · obtain ⟨T, x', rfl, n, rfl, y⟩ := y
    obtain ⟨x, ex, rfl⟩ := enumD_get e
    have z := y vs (SqL.of (s.fk a _ fa hl))
    obtain ⟨u, hu, hr⟩ := r.get ex
    rw [hu] at z; cases z
    exact new_tup (ds := [.int (i : Nat), x]) (vs := [.int (i : Nat), x']) R ⟨_, _, rfl, rfl, _, _, rfl, hr.fst s, rfl⟩ n
def zipD : List D → List D → List D
  | x :: xs, y :: ys => .tuple [x, y] :: zipD xs ys
  | _, _ => []
theorem zipD_len : ∀ (xs ys : List D), (zipD xs ys).length = min xs.length ys.length
  | [], _ => by simp [zipD]
  | _ :: _, [] => by simp [zipD]
  | x :: xs, y :: ys => by simp only [zipD, List.length_cons, zipD_len xs ys]; omega
theorem zipD_get : ∀ {xs ys : List D} {i : Nat} {d : D}, (zipD xs ys)[i]? = some d → ∃ x y, xs[i]? = some x ∧ ys[i]? = some y ∧ d = .tuple [x, y]
  | [], _, _, _, h => by simp [zipD] at h
  | _ :: _, [], _, _, h => by simp [zipD] at h
  | x :: xs, y :: ys, 0, d, h => by simp [zipD] at h; exact ⟨x, y, rfl, rfl, h.symm⟩
  | x :: xs, y :: ys, i + 1, d, h => by
    simp only [zipD, List.getElem?_cons_succ] at h
    obtain ⟨u, w, h1, h2, h3⟩ := zipD_get h
    exact ⟨u, w, by simpa using h1, by simpa using h2, h3⟩
theorem feed_zip (fa : F a) (hl : H a = some (.lst vs)) (r : RdL K F H ds vs) (fb : F b) (hb : H b = some (.lst us)) (r' : RdL K F H es us) : Feed K C (Itz K a b) (zipD ds es) F H := by
  have l1 := r.len
  have l2 := r'.len
  refine ⟨fun i hi F' O ρ σ H' s R => ?_, fun i hi F' O ρ σ H' s R => ?_, fun i d e F' O ρ σ H' s R x H'' y => ?_⟩
  · rw [zipD_len] at hi
    have i1 : i < vs.length := by omega
    have i2 : i < us.length := by omega
    exact ⟨vs, us, vs[i], us[i], SqL.of (s.fk a _ fa hl), SqL.of (s.fk b _ fb hb), List.getElem?_eq_getElem i1, List.getElem?_eq_getElem i2⟩
  · rw [zipD_len] at hi
    exact ⟨vs, us, SqL.of (s.fk a _ fa hl), SqL.of (s.fk b _ fb hb), by omega⟩
  · obtain ⟨T, x', y', rfl, n, rfl, h1, h2⟩ := y
    obtain ⟨x, y, ex, ey, rfl⟩ := zipD_get e
    have z1 := h1 vs (SqL.of (s.fk a _ fa hl))
    have z2 := h2 us (SqL.of (s.fk b _ fb hb))
    obtain ⟨u, hu, hr⟩ := r.get ex
    obtain ⟨w, hw, hr'⟩ := r'.get ey
    rw [hu] at z1; cases z1
    rw [hw] at z2; cases z2
    exact new_tup (ds := [x, y]) (vs := [x', y']) R ⟨_, _, rfl, hr.fst s, _, _, rfl, hr'.fst s, rfl⟩ n
theorem feed_zipT (hl : SqT K H a vs) (r : RdL K F H ds vs) (hb : SqT K H b us) (r' : RdL K F H es us) : Feed K C (RZ.ItzT K a b) (zipD ds es) F H := by
  have l1 := r.len
  have l2 := r'.len
  refine ⟨fun i hi F' O ρ σ H' s R => ?_, fun i hi F' O ρ σ H' s R => ?_, fun i d e F' O ρ σ H' s R x H'' y => ?_⟩
  · rw [zipD_len] at hi
    have i1 : i < vs.length := by omega
    have i2 : i < us.length := by omega
    exact ⟨vs, us, vs[i], us[i], s.seq hl, s.seq hb, List.getElem?_eq_getElem i1, List.getElem?_eq_getElem i2⟩
  · rw [zipD_len] at hi
    exact ⟨vs, us, s.seq hl, s.seq hb, by omega⟩
  · obtain ⟨T, x', y', rfl, n, rfl, h1, h2⟩ := y
    obtain ⟨x, y, ex, ey, rfl⟩ := zipD_get e
    have z1 := h1 vs (s.seq hl)
    have z2 := h2 us (s.seq hb)
    obtain ⟨u, hu, hr⟩ := r.get ex
    obtain ⟨w, hw, hr'⟩ := r'.get ey
    rw [hu] at z1; cases z1
    rw [hw] at z2; cases z2
    exact new_tup (ds := [x, y]) (vs := [x', y']) R ⟨_, _, rfl, hr.fst s, _, _, rfl, hr'.fst s, rfl⟩ n
def rangeD (lo c : Int) (n : Nat) : List D := (List.range n).map fun i => .int (lo + (i : Nat) * c)
theorem feed_rangeC (lo c : Int) (n : Nat) : Feed K C (Itc lo c n) (rangeD lo c n) F H := by
  have hl : (rangeD lo c n).length = n := by simp [rangeD]
  refine ⟨fun i hi F' O ρ σ H' s R => by rw [hl] at hi; exact hi, fun i hi F' O ρ σ H' s R => by rw [hl] at hi; exact hi, fun i d e F' O ρ σ H' s R x H'' y => ?_⟩
  obtain ⟨rfl, rfl⟩ := y
  have hi := (List.getElem?_eq_some_iff.mp e).1
  rw [hl] at hi
  unfold rangeD at e
  rw [List.getElem?_map, List.getElem?_range hi] at e
  simp at e
  subst e
  exact ⟨Stp.refl _ _ _, R, rfl⟩
theorem feed_range (lo : Int) (n : Nat) : Feed K C (Itr lo n) (rangeD lo 1 n) F H := by
  have hl : (rangeD lo 1 n).length = n := by simp [rangeD]
  refine ⟨fun i hi F' O ρ σ H' s R => by rw [hl] at hi; exact hi, fun i hi F' O ρ σ H' s R => by rw [hl] at hi; exact hi, fun i d e F' O ρ σ H' s R x H'' y => ?_⟩
  obtain ⟨rfl, rfl⟩ := y
  have hi := (List.getElem?_eq_some_iff.mp e).1
  rw [hl] at hi
  unfold rangeD at e
  rw [List.getElem?_map, List.getElem?_range hi] at e
  simp at e
  subst e
  exact ⟨Stp.refl _ _ _, R, rfl⟩
end
section
variable {X : Cx} {C : Ct} {tg e e1 e2 e3 : Expr} {te t1 t2 t3 : TED} {p pos : Pos}
def iL (te : TED) : TID := fun ρ P => te ρ fun d => match d with
  | .list ds => P ds
  | _ => False
def iT (te : TED) : TID := fun ρ P => te ρ fun d => match d with
  | .tuple ds => P ds
  | _ => False
theorem di_list (h : PD X C e te) : DI X C tg e (iL te) :=
  ⟨fun ρ P P' k => h.mono _ _ _ fun d h => by cases d <;> first | exact h.elim | exact k _ h, pi_imp (pi_list h.run) fun σ H Q ⟨F, O, ρ, R, q⟩ => ⟨F, O, ρ, R, h.mono _ _ _ (fun d k v H' F' s R' r => by
    cases d <;> first | exact k.elim | skip
    obtain ⟨a, vs, e, fa, hl, r⟩ := r
    exact ⟨a, e, ⟨vs, SqL.of hl⟩, k _ H' F' s R' (feed_list fa hl r)⟩) q⟩⟩
theorem di_tup (h : PD X C e te) : DI X C tg e (iT te) :=
  ⟨fun ρ P P' k => h.mono _ _ _ fun d h => by cases d <;> first | exact h.elim | exact k _ h, pi_imp (pi_tup h.run) fun σ H Q ⟨F, O, ρ, R, q⟩ => ⟨F, O, ρ, R, h.mono _ _ _ (fun d k v H' F' s R' r => by
    cases d <;> first | exact k.elim | skip
    obtain ⟨a, vs, e, hl, r⟩ := r
    exact ⟨a, e, ⟨vs, hl⟩, k _ H' F' s R' (feed_tup hl r)⟩) q⟩⟩
def iEnumL (te : TED) : TID := fun ρ P => te ρ fun d => match d with
  | .list ds => P (enumD ds)
  | _ => False
variable {elts : List Expr} {kk : Nat} {tpos : Pos}
theorem di_enumL (hg : Gl X "enumerate") (hm : X.mg "enumerate" = none) (h : PD X C e te) (hs : starEach [e] X.env = [(false, eval e X.env)] := by rfl) : DI X C (.Tuple elts kk tpos) (.Call (.Name "enumerate" p) [e] [] pos) (iEnumL te) :=
  ⟨fun ρ P P' k => h.mono _ _ _ fun d h => by cases d <;> first | exact h.elim | exact k _ h, pi_imp (pi_enum hg hm (pa_cons h.run pa_nil (by exact hs)) hs) fun σ H Q ⟨F, O, ρ, R, q⟩ => ⟨F, O, ρ, R, h.mono _ _ _ (fun d k v H' F' s R' r => by
    cases d <;> first | exact k.elim | skip
    obtain ⟨a, vs, e, fa, hl, r⟩ := r
    exact ⟨a, vs, by rw [e], SqL.of hl, k _ H' F' s R' (feed_enum fa hl r)⟩) q⟩⟩
def iZip (ta tb : TED) : TID := fun ρ P => ta ρ fun d => tb ρ fun d' => match d, d' with
  | .list xs, .list ys => P (zipD xs ys)
  | .tuple xs, .tuple ys => P (zipD xs ys)
  | _, _ => False
theorem di_zip (hg : Gl X "zip") (hm : X.mg "zip" = none) (h1 : PD X C e1 t1) (h2 : PD X C e2 t2) (hs : starEach [e1, e2] X.env = (false, eval e1 X.env) :: starEach [e2] X.env := by rfl) (hs2 : starEach [e2] X.env = (false, eval e2 X.env) :: starEach [] X.env := by rfl)
    (hpl : (backTo pos (starEach [e2] X.env)).any (·.1) = false := by rfl) : DI X C (.Tuple elts kk tpos) (.Call (.Name "zip" p) [e1, e2] [] pos) (iZip t1 t2) := by
  have mz : ∀ {d d' : D} {P P' : List D → Prop}, (∀ d, P d → P' d) → (match d, d' with
    | .list xs, .list ys => P (zipD xs ys)
    | .tuple xs, .tuple ys => P (zipD xs ys)
    | _, _ => False) → (match d, d' with
    | .list xs, .list ys => P' (zipD xs ys)
    | .tuple xs, .tuple ys => P' (zipD xs ys)
    | _, _ => False) := fun {d d' P P'} k h => by
    cases d <;> first | exact h.elim | (cases d' <;> first | exact h.elim | exact k _ h)
  refine ⟨fun ρ P P' k => h1.mono _ _ _ fun d => h2.mono _ _ _ fun d' h => mz k h, pi_imp (RZ.pi_zipA hg hm (pa_cons h1.run (pa_cons h2.run pa_nil hs2) hs) hs hpl) fun σ H Q ⟨F, O, ρ, R, q⟩ => ⟨F, O, ρ, R, h1.mono _ _ _ (fun d k v H1 F1 s1 R1 r1 => ⟨F1, O, ρ, R1, h2.mono _ _ _ (fun d' k2 u H2 F2 s2 R2 r2 => ?_) k⟩) q⟩⟩
  have r1 := r1.stpR R1 s2
  cases d <;> first | exact k2.elim | (cases d' <;> first | exact k2.elim | skip)
  · obtain ⟨a, vs, e, fa, hl, r⟩ := r1
    obtain ⟨b, us, e', fb, hl', r'⟩ := r2
    exact ⟨a, b, vs, us, by rw [e, e'], .inl ⟨SqL.of hl, SqL.of hl', k2 _ H2 F2 (s1.trans s2) R2 (feed_zip fa hl r fb hl' r')⟩⟩
  · obtain ⟨a, vs, e, hl, r⟩ := r1
    obtain ⟨b, us, e', hl', r'⟩ := r2
    exact ⟨a, b, vs, us, by rw [e, e'], .inr ⟨hl, hl', k2 _ H2 F2 (s1.trans s2) R2 (feed_zipT hl r hl' r')⟩⟩
def iR1 (ta : TED) : TID := fun ρ P => ta ρ fun d => isI d fun j => (-(2 ^ 62) ≤ j ∧ j < 2 ^ 62) ∧ P (rangeD 0 1 j.toNat)
theorem di_range1 (hg : Gl X "range") (hm : X.mg "range" = none) (h : PD X C e te) (hs : starEach [e] X.env = [(false, eval e X.env)] := by rfl) : DI X C tg (.Call (.Name "range" p) [e] [] pos) (iR1 te) :=
  ⟨fun ρ P P' k => h.mono _ _ _ fun d h => mono_isI (fun j h => ⟨h.1, k _ h.2⟩) h, pi_imp (pi_range1 hg hm (pa_cons h.run pa_nil (by exact hs)) hs) fun σ H Q ⟨F, O, ρ, R, q⟩ => ⟨F, O, ρ, R, h.mono _ _ _ (fun d k v H' F' s R' r => by
    obtain ⟨j, rfl, k⟩ := rdd_isI r k
    exact ⟨j, rfl, k.1.1, k.1.2, k.2 _ H' F' s R' (feed_range 0 _)⟩) q⟩⟩
def iR2 (ta tb : TED) : TID := fun ρ P => ta ρ fun d => tb ρ fun d' => isI d fun i => isI d' fun j => (-(2 ^ 62) ≤ i ∧ i < 2 ^ 62 ∧ -(2 ^ 62) ≤ j ∧ j < 2 ^ 62) ∧ P (rangeD i 1 (j - i).toNat)
theorem di_range2 (hg : Gl X "range") (hm : X.mg "range" = none) (h1 : PD X C e1 t1) (h2 : PD X C e2 t2) (hs : starEach [e1, e2] X.env = [(false, eval e1 X.env), (false, eval e2 X.env)] := by rfl) (hs2 : starEach [e2] X.env = [(false, eval e2 X.env)] := by rfl) : DI X C tg (.Call (.Name "range" p) [e1, e2] [] pos) (iR2 t1 t2) :=
  ⟨fun ρ P P' k => h1.mono _ _ _ fun d => h2.mono _ _ _ fun d' h => mono_isI (fun i => mono_isI fun j h => ⟨h.1, k _ h.2⟩) h, pi_imp (pi_range2 hg hm (pa_cons h1.run (pa_cons h2.run pa_nil (by exact hs2)) (by rw [hs, hs2])) hs hs2) fun σ H Q ⟨F, O, ρ, R, q⟩ => ⟨F, O, ρ, R, h1.mono _ _ _ (fun d k v H1 F1 s1 R1 r1 =>
    ⟨F1, O, ρ, R1, h2.mono _ _ _ (fun d' k2 u H2 F2 s2 R2 r2 => by
      obtain ⟨i, rfl, k2⟩ := rdd_isI r1 k2
      obtain ⟨j, rfl, k2⟩ := rdd_isI r2 k2
      exact ⟨i, j, rfl, k2.1, k2.2 _ H2 F2 (s1.trans s2) R2 (feed_range i _)⟩) k⟩) q⟩⟩
/-- range(i, j, -1) -/
def iR3 (ta tb tc : TED) : TID := fun ρ P => ta ρ fun d => tb ρ fun d' => tc ρ fun d'' => isI d fun i => isI d' fun j => isI d'' fun c => ∃ n, RgC i j c n ∧ P (rangeD i c n)
theorem di_range3 (hg : Gl X "range") (hm : X.mg "range" = none) (h1 : PD X C e1 t1) (h2 : PD X C e2 t2) (h3 : PD X C e3 t3) (hs : starEach [e1, e2, e3] X.env = (false, eval e1 X.env) :: starEach [e2, e3] X.env := by rfl) (hs2 : starEach [e2, e3] X.env = (false, eval e2 X.env) :: starEach [e3] X.env := by rfl) (hs3 : starEach [e3] X.env = (false, eval e3 X.env) :: starEach [] X.env := by rfl)
    (hpl : (backTo pos (starEach [e2, e3] X.env)).any (·.1) = false := by rfl) : DI X C tg (.Call (.Name "range" p) [e1, e2, e3] [] pos) (iR3 t1 t2 t3) :=
  ⟨fun ρ P P' k => h1.mono _ _ _ fun d => h2.mono _ _ _ fun d' => h3.mono _ _ _ fun d'' h => mono_isI (fun i => mono_isI fun j => mono_isI fun c ⟨n, h1, h2⟩ => ⟨n, h1, k _ h2⟩) h, pi_imp (pi_range3 hg hm (pa_cons h1.run (pa_cons h2.run (pa_cons h3.run pa_nil hs3) hs2) hs) hs hpl) fun σ H Q ⟨F, O, ρ, R, q⟩ => ⟨F, O, ρ, R, h1.mono _ _ _ (fun d k v H1 F1 s1 R1 r1 =>
    ⟨F1, O, ρ, R1, h2.mono _ _ _ (fun d' k2 u H2 F2 s2 R2 r2 => ⟨F2, O, ρ, R2, h3.mono _ _ _ (fun d'' k3 w H3 F3 s3 R3 r3 => by
      obtain ⟨i, rfl, k3⟩ := rdd_isI r1 k3
      obtain ⟨j, rfl, k3⟩ := rdd_isI r2 k3
      obtain ⟨c, rfl, n, h, k3⟩ := rdd_isI r3 k3
      exact ⟨i, j, c, n, rfl, h, k3 _ H3 F3 ((s1.trans s2).trans s3) R3 (feed_rangeC i c n)⟩) k2⟩) k⟩) q⟩⟩
end
/-! ### for, while -/
def forD (g : Tgt) (tb : TSD) (D : EndsD) : List DL.D → List Slot → Prop
  | [], ρ => D.nx ρ
  | d :: ds, ρ => bindT g d ρ fun ρ' => tb { D with nx := forD g tb D ds, ct := forD g tb D ds, bk := D.nx } ρ'
theorem forD_mono {g : Tgt} {tb : TSD} (hm : MonoS tb) {D D' : EndsD} (l : EndsD.Le D D') : ∀ (ds : List DL.D) (ρ : List Slot), forD g tb D ds ρ → forD g tb D' ds ρ
  | [], _, h => l.nx _ h
  | d :: ds, _, h => mono_bindT (fun ρ' h => hm { D with nx := forD g tb D ds, ct := forD g tb D ds, bk := D.nx } { D' with nx := forD g tb D' ds, ct := forD g tb D' ds, bk := D'.nx } _ ⟨forD_mono hm l ds, l.rt, l.nx, forD_mono hm l ds⟩ h) h
def sFor (ti : TID) (g : Tgt) (tb : TSD) : TSD := fun D ρ => ti ρ fun ds => forD g tb D ds ρ
def sWhile (c : TTD) (tb : TSD) : TSD := fun D ρ => ∃ W : Nat → List Slot → Prop, (∃ m, W m ρ) ∧ ∀ m ρ, W m ρ → c ρ fun b => if b = true then tb { D with nx := fun ρ' => ∃ m', m' < m ∧ W m' ρ', ct := fun ρ' => ∃ m', m' < m ∧ W m' ρ', bk := D.nx } ρ else D.nx ρ
section
variable {X : Cx} {C : Ct} {tg iter c : Expr} {body : List Stmt} {ti : TID} {tb : TSD} {tc : TTD} {pos : Pos}
theorem psd_for (g : Tgt) (hp : PassesOwn (model X.prog X.w) X.A X.env X.xe) (hc : X.calm = true) (hi : DI X C tg iter ti) (hg : PG X tg (gTgt X.K g)) (hb : PSDs X C body tb) (hs : ∀ x, foldedSetIterable iter X.env x = pure x := by intro _; rfl) : PSD X C (.For tg iter body [] pos) (sFor ti g tb) := by
  refine ⟨fun D D' ρ l => hi.mono _ _ _ fun ds => forD_mono hb.mono l ds ρ, ps_imp (ps_for hp hc hi.run hg hb.run hs) fun D σ H ⟨F, O, ρ, R, q⟩ => ⟨F, O, ρ, R, hi.mono _ _ _ (fun ds k J H1 F1 s1 R1 fd => ?_) q⟩⟩
  refine ⟨fun i m σ' H' => m = ds.length - i ∧ i ≤ ds.length ∧ ∃ F' O' ρ', FSt F1 F' H1 H' ∧ Rel X.K C F' O' ρ' σ' H' ∧ forD g tb (dEnds X.K C F' H' D) (ds.drop i) ρ', ⟨ds.length, rfl, Nat.zero_le _, F1, O, ρ, FSt.refl _ _, R1, forD_mono hb.mono (dEnds_le (FSt.of R s1)) _ _ k⟩, ?_⟩
  rintro i m σ' H' ⟨rfl, hi, F', O', ρ', s', R', k'⟩
  by_cases hlt : i < ds.length
  · refine .inr ⟨fd.go i hlt s' R', _, fun σ2 H2 h => h, fun x H'' y => ?_⟩
    obtain ⟨s2, R2, r2⟩ := fd.yld i _ (List.getElem?_eq_getElem hlt) s' R' x H'' y
    rw [List.drop_eq_getElem_cons hlt] at k'
    refine tgt_do R2 r2 k' fun ρ3 σ3 _ R3 k3 => ?_
    refine ⟨F', O', ρ3, R3, hb.mono { dEnds X.K C F' H' D with nx := forD g tb (dEnds X.K C F' H' D) (ds.drop (i + 1)), ct := forD g tb (dEnds X.K C F' H' D) (ds.drop (i + 1)), bk := (dEnds X.K C F' H' D).nx } _ _ ⟨fun ρ4 k4 F5 O5 σ5 H5 s5 R5 => ?_, fun d k4 v F5 O5 ρ5 σ5 H5 s5 R5 r5 => k4 v F5 O5 ρ5 σ5 H5 ((FSt.of R' s2).trans s5) R5 r5, fun ρ4 k4 F5 O5 σ5 H5 s5 R5 => k4 F5 O5 σ5 H5 ((FSt.of R' s2).trans s5) R5, fun ρ4 k4 F5 O5 σ5 H5 s5 R5 => ?_⟩ k3⟩
    · exact ⟨ds.length - (i + 1), by omega, rfl, hlt, F5, O5, ρ4, (s'.trans (FSt.of R' s2)).trans s5, R5, forD_mono hb.mono (dEnds_le ((FSt.of R' s2).trans s5)) _ _ k4⟩
    · exact ⟨ds.length - (i + 1), by omega, rfl, hlt, F5, O5, ρ4, (s'.trans (FSt.of R' s2)).trans s5, R5, forD_mono hb.mono (dEnds_le ((FSt.of R' s2).trans s5)) _ _ k4⟩
  · have e : ds.drop i = [] := List.drop_eq_nil_of_le (by omega)
    rw [e] at k'
    exact .inl ⟨fd.stop i (by omega) s' R', k' F' O' σ' H' (FSt.refl _ _) R'⟩
theorem psd_while (hp : PassesOwn (model X.prog X.w) X.A X.env X.xe) (hc : DT X C c tc) (hb : PSDs X C body tb) : PSD X C (.While c body [] pos) (sWhile tc tb) := by
  refine ⟨fun D D' ρ l ⟨W, h0, h⟩ => ⟨W, h0, fun m ρ w => hc.mono _ _ _ (fun b k => mono_ite k (hb.mono { D with nx := fun ρ' => ∃ m', m' < m ∧ W m' ρ', ct := fun ρ' => ∃ m', m' < m ∧ W m' ρ', bk := D.nx } { D' with nx := fun ρ' => ∃ m', m' < m ∧ W m' ρ', ct := fun ρ' => ∃ m', m' < m ∧ W m' ρ', bk := D'.nx } _ ⟨fun _ z => z, l.rt, l.nx, fun _ z => z⟩) (l.nx _)) (h m ρ w)⟩, ps_imp (ps_while hp hc.run hb.run) fun D σ H ⟨F, O, ρ, R, W, ⟨m0, w0⟩, q⟩ => ?_⟩
  refine ⟨fun m σ' H' => ∃ F' O' ρ', FSt F F' H H' ∧ Rel X.K C F' O' ρ' σ' H' ∧ W m ρ', ⟨m0, F, O, ρ, FSt.refl _ _, R, w0⟩, ?_⟩
  rintro m σ' H' ⟨F', O', ρ', s', R', w'⟩
  refine ⟨F', O', ρ', R', hc.mono _ _ _ (fun b k H2 F2 s2 R2 => mono_ite k (fun k => ?_) fun k => k F2 O' σ' H2 (s'.trans (FSt.of R' s2)) R2) (q m ρ' w')⟩
  refine ⟨_, fun σ3 H3 h => h, F2, O', ρ', R2, hb.mono { dEnds X.K C F H D with nx := fun ρ' => ∃ m', m' < m ∧ W m' ρ', ct := fun ρ' => ∃ m', m' < m ∧ W m' ρ', bk := (dEnds X.K C F H D).nx } _ _ ⟨fun ρ4 k4 F5 O5 σ5 H5 s5 R5 => ?_, fun d k4 v F5 O5 ρ5 σ5 H5 s5 R5 r5 => k4 v F5 O5 ρ5 σ5 H5 ((s'.trans (FSt.of R' s2)).trans s5) R5 r5, fun ρ4 k4 F5 O5 σ5 H5 s5 R5 => k4 F5 O5 σ5 H5 ((s'.trans (FSt.of R' s2)).trans s5) R5, fun ρ4 k4 F5 O5 σ5 H5 s5 R5 => ?_⟩ k⟩
  · obtain ⟨m', hm, w⟩ := k4
    exact ⟨m', hm, F5, O5, ρ4, (s'.trans (FSt.of R' s2)).trans s5, R5, w⟩
  · obtain ⟨m', hm, w⟩ := k4
    exact ⟨m', hm, F5, O5, ρ4, (s'.trans (FSt.of R' s2)).trans s5, R5, w⟩
end
end DL

namespace DL
open PySem PySem.Spec PyProof.Rows L2

/-! ### several values, frozen or own, stored at once -/
def LsR (K : PySem.W.Frag) (C : Ct) (F : Addr → Prop) (O : Fps) (H : Hp) : List Slot → List V → List Addr → Prop
  | [], vs, as => vs = [] ∧ as = []
  | .val d :: ss, vs, as => ∃ v r, vs = v :: r ∧ Rdd K F H d v ∧ LsR K C F O H ss r as
  | .own ds :: ss, vs, as => ∃ a xs r as', vs = .ref a :: r ∧ as = a :: as' ∧ a ∉ as' ∧ ¬ F a ∧ (∀ i, a ∉ O i) ∧ a ≠ C.q.p ∧ a ≠ C.q.l ∧ Nn C.H0 a ∧ H a = some (.lst xs) ∧ RdL K F H ds xs ∧ LsR K C F O H ss r as'
  | _ :: _, _, _ => False
section
variable {K : PySem.W.Frag} {C : Ct} {F F' : Addr → Prop} {O : Fps} {ρ : List Slot} {σ : L2.St} {H H' : Hp} {d : D} {v : V} {ds : List D} {vs : List V}
theorem LsR.stp (R : Rel K C F O ρ σ H) (s : Stp C.q F F' H H') : ∀ (ss : List Slot) (vs : List V) (as : List Addr), LsR K C F O H ss vs as → LsR K C F' O H' ss vs as := by
  intro ss
  induction ss with
  | nil => intro vs as h; exact h
  | cons s0 ss ih =>
    intro vs as h
    cases s0 with
    | val d =>
      obtain ⟨v, r, e, h1, h2⟩ := h
      exact ⟨v, r, e, h1.stpR R s, ih _ _ h2⟩
    | own ds =>
      obtain ⟨a, xs, r, as', e1, e2, h0, h1, h2, h3, h4, h5, h6, h7, h8⟩ := h
      exact ⟨a, xs, r, as', e1, e2, h0, fun z => (s.nw a z).elim h1 (fun n => n.no h6 (fun ps z => nomatch z)), h2, h3, h4, h5, s.kp.kp a _ h6 h3 h4 (fun ps z => nomatch z), h7.stpR R s, ih _ _ h8⟩
    | _ => exact h.elim
/-- a list without further things is set in place -/
def putS : List Slot → List Nat → List Slot → List Slot
  | ρ, i :: is, s :: ss => putS (ρ.set i s) is ss
  | ρ, _, _ => ρ
def putV : L2.St → List Nat → List V → L2.St
  | σ, i :: is, v :: vs => putV (σ.set i (some v)) is vs
  | σ, _, _ => σ
theorem Rel.putS (is : List Nat) : ∀ (ss : List Slot) (vs : List V) (as : List Addr) (O : Fps) (ρ : List Slot) (σ : L2.St), Rel K C F O ρ σ H → LsR K C F O H ss vs as → ss.length = is.length → ∃ O', Rel K C F O' (putS ρ is ss) (putV σ is vs) H := by
  induction is with
  | nil =>
    intro ss vs as O ρ σ R h hl
    cases ss with
    | nil => exact ⟨O, R⟩
    | cons => cases hl
  | cons i is ih =>
    intro ss vs as O ρ σ R h hl
    cases ss with
    | nil => cases hl
    | cons s0 ss =>
      cases s0 with
      | val d =>
        obtain ⟨v, r, e, h1, h2⟩ := h
        subst e
        exact ih ss r as O _ _ (R.setV i h1) h2 (by simpa using hl)
      | own ds =>
        obtain ⟨a, xs, r, as', e1, e2, h0, h1, h2, h3, h4, h5, h6, h7, h8⟩ := h
        subst e1
        refine ih ss r as' _ _ _ (R.setF i h1 h2 h3 h4 h5 h6 h7) ?_ (by simpa using hl)
        -- the others are no a
        have key : ∀ (ss : List Slot) (vs : List V) (as' : List Addr), a ∉ as' → LsR K C F O H ss vs as' → LsR K C F (putO O i [a]) H ss vs as' := by
          intro ss
          induction ss with
          | nil => intro vs as' _ h; exact h
          | cons s1 ss ih2 =>
            intro vs as' na h
            cases s1 with
            | val d =>
              obtain ⟨v, r, e, h1, h2⟩ := h
              exact ⟨v, r, e, h1, ih2 _ _ na h2⟩
            | own ds =>
              obtain ⟨b, xs, r, as2, e1, e2, g0, g1, g2, g3, g4, g5, g6, g7, g8⟩ := h
              subst e2
              refine ⟨b, xs, r, as2, e1, rfl, g0, g1, fun j z => ?_, g3, g4, g5, g6, g7, ih2 _ _ (fun z => na (List.mem_cons_of_mem _ z)) g8⟩
              unfold putO at z
              split at z
              · exact na (List.mem_singleton.mp z ▸ List.mem_cons_self)
              · exact g2 j z
            | _ => exact h.elim
        exact key _ _ _ h0 h8
      | _ => exact h.elim
end
abbrev TMD := List Slot → (List Slot → Prop) → Prop
def liftM (K : PySem.W.Frag) (C : Ct) (t : TMD) : TA := fun σ H Q => ∃ F O ρ, Rel K C F O ρ σ H ∧ t ρ fun ss => ∀ vs as H' F', Stp C.q F F' H H' → Rel K C F' O ρ σ H' → LsR K C F' O H' ss vs as → (∀ a ∈ as, Nn H a) → Q vs H'
structure DM (X : Cx) (C : Ct) (es : List Expr) (t : TMD) : Prop where
  mono : ∀ ρ (P P' : List Slot → Prop), (∀ d, P d → P' d) → t ρ P → t ρ P'
  run : PA X es (liftM X.K C t)
def mNil : TMD := fun _ P => P []
def mVal (te : TED) (tm : TMD) : TMD := fun ρ P => te ρ fun d => tm ρ fun ss => P (.val d :: ss)
def mOwn (te : TED) (tm : TMD) : TMD := fun ρ P => te ρ fun d => match d with
  | .list ds => tm ρ fun ss => P (.own ds :: ss)
  | _ => False
section
variable {X : Cx} {C : Ct} {e a b c : Expr} {es : List Expr} {te : TED} {tm : TMD} {pos px py pz pt : Pos} {kt k2 : Nat}
theorem dm_nil : DM X C [] mNil := ⟨fun _ _ _ k h => k _ h, pa_imp pa_nil fun σ H Q ⟨F, O, ρ, R, q⟩ => q [] [] H F (Stp.refl _ _ _) R ⟨rfl, rfl⟩ (fun a h => nomatch h)⟩
theorem dm_val (h : PD X C e te) (ha : DM X C es tm) (hs : starEach (e :: es) X.env = (false, eval e X.env) :: starEach es X.env := by rfl) : DM X C (e :: es) (mVal te tm) :=
  ⟨fun ρ P P' k => h.mono _ _ _ fun d => ha.mono _ _ _ fun as => k _, pa_imp (pa_cons h.run ha.run hs) fun σ H Q ⟨F, O, ρ, R, q⟩ =>
    ⟨F, O, ρ, R, h.mono _ _ _ (fun d k v H1 F1 s1 R1 r1 => ⟨F1, O, ρ, R1, ha.mono _ _ _ (fun ss k2 vs as H2 F2 s2 R2 r2 n2 => k2 _ as H2 F2 (s1.trans s2) R2 ⟨v, vs, rfl, Rdd.stpR R1 s2 r1, r2⟩ fun a h => s1.kp.free (n2 a h)) k⟩) q⟩⟩
theorem dm_own (h : PF X C e te) (ha : DM X C es tm) (hs : starEach (e :: es) X.env = (false, eval e X.env) :: starEach es X.env := by rfl) : DM X C (e :: es) (mOwn te tm) := by
  refine ⟨fun ρ P P' k => h.mono _ _ _ fun d z => ?_, pa_imp (pa_cons h.run ha.run hs) fun σ H Q ⟨F, O, ρ, R, q⟩ => ⟨F, O, ρ, R, h.mono _ _ _ (fun d k v H1 F1 s1 R1 r1 => ?_) q⟩⟩
  · cases d <;> first | exact z.elim | exact ha.mono _ _ _ (fun as => k _) z
  · cases d <;> first | exact k.elim | skip
    obtain ⟨a, xs, rfl, n, h1, h2, h3, h4⟩ := r1
    obtain ⟨n1, n2, n3, _, _⟩ := R.np n
    refine ⟨F1, O, ρ, R1, ha.mono _ _ _ (fun ss k2 vs as H2 F2 s2 R2 r2 m2 => k2 _ (a :: as) H2 F2 (s1.trans s2) R2 ⟨a, xs, vs, as, rfl, rfl, fun z => ?_, fun z => ?_, h2, n1, n2, n3, s2.kp.kp a _ h3 n1 n2 (fun ps z => nomatch z), h4.stpR R1 s2, r2⟩ fun b hb => ?_) k⟩
    · exact (m2 a z).no h3 (fun ps z => nomatch z)
    · exact (s2.nw a z).elim h1 fun n => n.no h3 (fun ps z => nomatch z)
    · rcases List.mem_cons.mp hb with rfl | hb
      · exact n
      · exact s1.kp.free (m2 b hb)
def sPar (is : List Nat) (tm : TMD) : TSD := fun D ρ => tm ρ fun ss => ss.length = is.length ∧ D.nx (putS ρ is ss)
theorem mono_par (ha : DM X C es tm) (is : List Nat) : MonoS (sPar is tm) := fun D D' ρ l h => ha.mono _ _ _ (fun ss h => ⟨h.1, l.nx _ h.2⟩) h
theorem LsR.len {K : PySem.W.Frag} {F : Addr → Prop} {O : Fps} {H : Hp} : ∀ (ss : List Slot) (vs : List V) (as : List Addr), LsR K C F O H ss vs as → vs.length = ss.length := by
  intro ss
  induction ss with
  | nil => intro vs as h; rw [h.1]; rfl
  | cons s0 ss ih =>
    intro vs as h
    cases s0 with
    | val d => obtain ⟨v, r, e, h1, h2⟩ := h; rw [e, List.length_cons, List.length_cons, ih _ _ h2]
    | own ds =>
      obtain ⟨a, xs, r, as2, e1, e2, g0, g1, g2, g3, g4, g5, g6, g7, g8⟩ := h
      rw [e1, List.length_cons, List.length_cons, ih _ _ g8]
    | _ => exact h.elim
variable {pt2 : Pos}
theorem psd_par {i j : Nat} {x y : Str} (hc : X.calm = true) (hN : X.N.Nodup) (ha : DM X C [a, b] tm) (hi : X.N[i]? = some x := by rfl) (hj : X.N[j]? = some y := by rfl) (hij : i ≠ j := by decide)
    (hx : X.env.scope.names.lookup x = some .local := by rfl) (hy : X.env.scope.names.lookup y = some .local := by rfl)
    (hw : swappedStores [.Tuple [.Name x px, .Name y py] kt pt] (.Tuple [a, b] k2 pt2) X.env = pure (some [x, y]) := by rfl)
    (hs : swapsWithSole [.Tuple [.Name x px, .Name y py] kt pt] (.Tuple [a, b] k2 pt2) pos.line X.env = pure false := by rfl) :
    PSD X C (.Assign [.Tuple [.Name x px, .Name y py] kt pt] (.Tuple [a, b] k2 pt2) pos) (sPar [i, j] tm) := by
  refine ⟨mono_par ha _, ps_imp (ps_par hc hN hi hj hij hx hy ha.run hw hs) fun D σ H ⟨F, O, ρ, R, q⟩ => ⟨F, O, ρ, R, ha.mono _ _ _ (fun ss k vs as H1 F1 s1 R1 r1 _ => ?_) q⟩⟩
  have hl := LsR.len ss vs as r1
  rw [k.1] at hl
  match vs, hl with
  | [v, w], _ =>
    obtain ⟨O', R'⟩ := Rel.putS [i, j] ss [v, w] as O ρ σ R1 r1 k.1
    exact ⟨v, w, rfl, k.2 F1 O' _ H1 (FSt.of R s1) R'⟩
theorem psd_par3 {i j l : Nat} {x y z : Str} (hc : X.calm = true) (hN : X.N.Nodup) (ha : DM X C [a, b, c] tm) (hi : X.N[i]? = some x := by rfl) (hj : X.N[j]? = some y := by rfl) (hl : X.N[l]? = some z := by rfl) (hij : i ≠ j := by decide) (hil : i ≠ l := by decide) (hjl : j ≠ l := by decide)
    (hx : X.env.scope.names.lookup x = some .local := by rfl) (hy : X.env.scope.names.lookup y = some .local := by rfl) (hz : X.env.scope.names.lookup z = some .local := by rfl)
    (hw : swappedStores [.Tuple [.Name x px, .Name y py, .Name z pz] kt pt] (.Tuple [a, b, c] k2 pt2) X.env = pure (some [x, y, z]) := by rfl)
    (hs : swapsWithSole [.Tuple [.Name x px, .Name y py, .Name z pz] kt pt] (.Tuple [a, b, c] k2 pt2) pos.line X.env = pure false := by rfl) :
    PSD X C (.Assign [.Tuple [.Name x px, .Name y py, .Name z pz] kt pt] (.Tuple [a, b, c] k2 pt2) pos) (sPar [i, j, l] tm) := by
  refine ⟨mono_par ha _, ps_imp (ps_par3 hc hN hi hj hl hij hil hjl hx hy hz ha.run hw hs) fun D σ H ⟨F, O, ρ, R, q⟩ => ⟨F, O, ρ, R, ha.mono _ _ _ (fun ss k vs as H1 F1 s1 R1 r1 _ => ?_) q⟩⟩
  have hl := LsR.len ss vs as r1
  rw [k.1] at hl
  match vs, hl with
  | [v, w, u], _ =>
    obtain ⟨O', R'⟩ := Rel.putS [i, j, l] ss [v, w, u] as O ρ σ R1 r1 k.1
    exact ⟨v, w, u, rfl, k.2 F1 O' _ H1 (FSt.of R s1) R'⟩
/-- targets = a frozen value -/
def sAsg (g : Tgt) (te : TED) : TSD := fun D ρ => te ρ fun d => bindT g d ρ D.nx
variable {tg : Expr}
theorem psd_asg (g : Tgt) (he : PD X C e te) (hg : PG X tg (gTgt X.K g)) (hs : swapsWithSole [tg] e pos.line X.env = pure false := by rfl) (hw : swappedStores [tg] e X.env = pure none := by rfl)
    (h1 : (assignEach [tg] X.env).map (·.2) = [assign tg X.env] := by rfl) : PSD X C (.Assign [tg] e pos) (sAsg g te) :=
  ⟨fun D D' ρ l => he.mono _ _ _ fun d => mono_bindT l.nx, ps_imp (ps_asg he.run hg hs hw h1) fun D σ H ⟨F, O, ρ, R, q⟩ => ⟨F, O, ρ, R, he.mono _ _ _ (fun d k v H' F' s R' r =>
    tgt_do R' r k fun ρ' σ' _ R2 k2 => k2 F' O σ' H' (FSt.of R s) R2) q⟩⟩
end

/-! ### list comprehensions -/
def wipeD (ρ : List Slot) : List Nat → List Slot
  | [] => ρ
  | v :: vs => (wipeD ρ vs).set v .un
def compD (g : Tgt) (tt : TTD) (te : TED) (ρ : List Slot) : List D → List D → (D → Prop) → Prop
  | [], acc, P => P (.list acc)
  | d :: ds, acc, P => bindT g d ρ fun ρ2 => tt ρ2 fun b => if b = true then te ρ2 fun y => acc.length < sizeLine ∧ compD g tt te ρ ds (acc ++ [y]) P else compD g tt te ρ ds acc P
def dComp (ti : TID) (g : Tgt) (tt : TTD) (te : TED) (vs : List Nat) : TED := fun ρ P => ti ρ fun ds => compD g tt te (wipeD ρ vs) ds [] P
structure DTs (X : Cx) (C : Ct) (ifs : List Expr) (t : TTD) : Prop where
  mono : MonoT t
  run : PTs X ifs (liftT X.K C t)
def tYesD : TTD := fun _ P => P true
theorem pts_imp {X : Cx} {ifs : List Expr} {t t' : TT} (h : PTs X ifs t) (i : ∀ σ H Q, t' σ H Q → t σ H Q) : PTs X ifs t' := ⟨fun pins s σ H Q I q => h.run pins s σ H Q I (i σ H Q q)⟩
theorem dts_nil {X : Cx} {C : Ct} : DTs X C [] tYesD := ⟨fun _ _ _ k h => k _ h, pts_imp pts_nil fun σ H Q ⟨F, O, ρ, R, q⟩ => q H F (Stp.refl _ _ _) R⟩
theorem dts_one {X : Cx} {C : Ct} {c : Expr} {t : TTD} (h : DT X C c t) : DTs X C [c] t := ⟨h.mono, pts_one h.run⟩
theorem compD_mono {g : Tgt} {tt : TTD} {te : TED} {ρ : List Slot} (ht : MonoT tt) (he : MonoE te) : ∀ (ds acc : List D) (P P' : D → Prop), (∀ d, P d → P' d) → compD g tt te ρ ds acc P → compD g tt te ρ ds acc P'
  | [], acc, P, P', k, h => k _ h
  | d :: ds, acc, P, P', k, h => mono_bindT (fun ρ2 h => ht _ _ _ (fun b h => mono_ite h (he _ _ _ fun y h => ⟨h.1, compD_mono ht he ds _ P P' k h.2⟩) (compD_mono ht he ds _ P P' k)) h) h
section
variable {K : PySem.W.Frag} {C : Ct} {F F' : Addr → Prop} {O : Fps} {ρ : List Slot} {σ : L2.St} {H H' : Hp}
theorem Rel.wipe (R : Rel K C F O ρ σ H) : ∀ vs : List Nat, Rel K C F O (wipeD ρ vs) (L2.wipe σ vs) H
  | [] => R
  | v :: vs => (R.wipe vs).setU v none
end
theorem comp_imp {K : PySem.W.Frag} {C : Ct} {ti : TID} {tt : TTD} {te : TED} (g : Tgt) (own : List (Str × Nat)) (hi : ∀ ρ (P P' : List D → Prop), (∀ d, P d → P' d) → ti ρ P → ti ρ P') (hv : ∀ i ∈ g.ixs, i ∈ own.map (·.2)) (mt : MonoT tt) (me : MonoE te) :
    MonoE (dComp ti g tt te (own.map (·.2))) ∧ ∀ σ H Q, lift (rF K) K C (dComp ti g tt te (own.map (·.2))) σ H Q → tLc (liftI K C ti) (gTgt K g) (liftT K C tt) (lift (rE K) K C te) (own.map (·.2)) σ H Q := by
  refine ⟨fun ρ P P' k => hi _ _ _ fun ds => compD_mono mt me ds [] P P' k, fun σ H Q ⟨F, O, ρ, R, q⟩ => ⟨F, O, ρ, R, hi _ _ _ (fun ds k J H1 F1 s1 R1 fd D hD => ?_) q⟩⟩
  obtain ⟨n1, n2, n3, n4, n5⟩ := R1.np (Nn.of hD)
  have hD0 : Nn H D := s1.kp.free (Nn.of hD)
  refine ⟨fun i m H' => m = ds.length - i ∧ i ≤ ds.length ∧ ∃ F' acc vs, Stp C.q F F' H H' ∧ FSt F1 F' H1 H' ∧ Rel K C F' O ρ σ H' ∧ H' D = some (.lst vs) ∧ ¬ F' D ∧ RdL K F' H' acc vs ∧
    compD g tt te (wipeD ρ (own.map (·.2))) (ds.drop i) acc (fun d => ∀ v H' F', Stp C.q F F' H H' → Rel K C F' O ρ σ H' → rF K F' O H H' d v → Q v H'), ⟨ds.length, rfl, Nat.zero_le _, F1, [], [], ?_, ?_, R1.new hD, upd_same, n4, rfl, k⟩, ?_⟩
  · exact s1.trans (Stp.new hD)
  · exact FSt.of R1 (Stp.new hD)
  rintro i m H' ⟨rfl, hile, F', acc, vs, sS, sF, R', hl, nf, ra, k'⟩
  by_cases hlt : i < ds.length
  · refine .inr ⟨fd.go i hlt sF R', fun H2 => ∃ m', m' < ds.length - i ∧ (m' = ds.length - (i + 1) ∧ i + 1 ≤ ds.length ∧ ∃ F' acc vs, Stp C.q F F' H H2 ∧ FSt F1 F' H1 H2 ∧ Rel K C F' O ρ σ H2 ∧ H2 D = some (.lst vs) ∧ ¬ F' D ∧ RdL K F' H2 acc vs ∧
      compD g tt te (wipeD ρ (own.map (·.2))) (ds.drop (i + 1)) acc (fun d => ∀ v H' F', Stp C.q F F' H H' → Rel K C F' O ρ σ H' → rF K F' O H H' d v → Q v H')), fun H2 z => z, fun x H'' y => ?_⟩
    obtain ⟨s2, R2, r2⟩ := fd.yld i _ (List.getElem?_eq_getElem hlt) sF R' x H'' y
    rw [List.drop_eq_getElem_cons hlt, compD] at k'
    have fwd : ∀ {F5 : Addr → Prop} {H5 : Hp}, Stp C.q F' F5 H' H5 → Rel K C F5 O ρ σ H5 → H5 D = some (.lst vs) ∧ ¬ F5 D := fun {F5 H5} s5 R5 =>
      ⟨s5.kp.kp D _ hl n1 n2 (fun ps z => nomatch z), fun z => (s5.nw D z).elim nf fun n => n.no hl (fun ps z => nomatch z)⟩
    refine tgt_do (t := g) (R2.wipe (own.map (·.2))) r2 k' ?_
    intro ρ3 σ3 b3 R3 k3
    refine ⟨?_, ?_⟩
    · rw [b3.wipe _ hv]
      clear b3 k3 R3
      -- wiping twice
      have b4 : But (own.map (·.2)) σ (L2.wipe σ (own.map (·.2))) := by
        refine ⟨wipe_length _ _, fun j hj => ?_⟩
        have : ∀ ws : List Nat, j ∉ ws → (L2.wipe σ ws)[j]? = σ[j]? := by
          intro ws
          induction ws with
          | nil => intro _; rfl
          | cons w ws ih => intro h; unfold L2.wipe; rw [List.getElem?_set_ne (fun e => h (by rw [e]; exact List.mem_cons_self)), ih (fun z => h (List.mem_cons_of_mem _ z))]
        exact this _ hj
      exact b4.wipe _ fun _ h => h
    -- the frame of the block: back to the frame of the def
    have back : ∀ {F5 : Addr → Prop} {H5 : Hp}, Stp C.q F' F5 H'' H5 → Rel K C F5 O ρ3 σ3 H5 → Rel K C F5 O ρ σ H5 := fun {F5 H5} s5 R5 =>
      R2.step s5 R5.dk R5.tb fun a ha _ => R5.fz a ha
    refine ⟨F', O, ρ3, R3, mt _ _ _ (fun b k4 H5 F5 s5 R5 => ?_) k3⟩
    have R5' := back s5 R5
    cases b with
    | false =>
      simp only [Bool.false_eq_true, if_false] at k4 ⊢
      obtain ⟨z1, z2⟩ := fwd (s2.trans s5) R5'
      exact ⟨ds.length - (i + 1), by omega, rfl, hlt, F5, acc, vs, sS.trans (s2.trans s5), sF.trans (FSt.of R' (s2.trans s5)), R5', z1, z2, ra.stpR R' (s2.trans s5), k4⟩
    | true =>
      simp only [if_true] at k4 ⊢
      refine ⟨F5, O, ρ3, R5, me _ _ _ (fun d k6 v H6 F6 s6 R6 r6 => ?_) k4⟩
      have R6' := back (s5.trans s6) R6
      have st : Stp C.q F' F6 H' H6 := s2.trans (s5.trans s6)
      obtain ⟨z1, z2⟩ := fwd st R6'
      have ra6 := ra.stpR R' st
      have lw : FSt F6 F6 H6 (upd H6 D (.lst (vs ++ [v]))) := FSt.wr z1 (.inl ⟨_, rfl⟩) z2
      refine ⟨vs, z1, by rw [ra6.len]; exact k6.1, ds.length - (i + 1), by omega, rfl, hlt, F6, acc ++ [d], vs ++ [v], ?_, sF.trans ((FSt.of R' st).trans lw), R6'.wr z1 (.inl ⟨_, rfl⟩) (.inl ⟨_, rfl⟩) z2 n1 n2 n3 n5, upd_same, z2, (RdL.append (es := [d]) (us := [v]) ra6 ⟨v, [], rfl, r6, rfl⟩).fst lw, k6.2⟩
      have s7 := sS.trans st
      exact ⟨⟨fun b o e h1 h2 h3 => (upd_ne fun (z : b = D) => hD0.no (by rw [← z]; exact e) h3).trans (s7.kp.kp b o e h1 h2 h3), fun b o e h => by
        by_cases z : b = D
        · exact absurd (hD0.no (by rw [← z]; exact e) h) id
        · rw [upd_ne z]; exact s7.kp.th b o e h⟩, s7.up, s7.nw⟩
  · have e : ds.drop i = [] := List.drop_eq_nil_of_le (by omega)
    rw [e] at k'
    exact .inl ⟨fd.stop i (by omega) sF R', k' _ H' F' sS R' ⟨D, vs, rfl, hD0, nf, n5, hl, ra⟩⟩
theorem pf_comp {X : Cx} {C : Ct} {elt tg iter : Expr} {ifs : List Expr} {scope : Scope} {pos : Pos} {ti : TID} {tt : TTD} {te : TED} (g : Tgt) (own : List (Str × Nat)) (hc : X.calm = true) (hN : X.N.Nodup) (hi : DI X C tg iter ti) (ok : BlkOk X.N X.env.scope scope own)
    (hv : ∀ i ∈ g.ixs, i ∈ own.map (·.2))
    (hg : ∀ (s : Shared) (H : Hp) (A : Addr) (cl : List (Str × Addr)) (fp : List Addr), PG (X.blk s H scope (compEnvC scope cl A X.env) fp) tg (gTgt X.K g))
    (ht : ∀ (s : Shared) (H : Hp) (A : Addr) (cl : List (Str × Addr)) (fp : List Addr), DTs (X.blk s H scope (compEnvC scope cl A X.env) fp) C ifs tt)
    (he : ∀ (s : Shared) (H : Hp) (A : Addr) (cl : List (Str × Addr)) (fp : List Addr), PD (X.blk s H scope (compEnvC scope cl A X.env) fp) C elt te) (hs : ∀ x, foldedSetIterable iter X.env x = pure x := by intro _; rfl) :
    PF X C (.ListComp elt [⟨tg, iter, ifs, 0⟩] scope pos) (dComp ti g tt te (own.map (·.2))) := by
  have mt : MonoT tt := (ht X.s_0 (fun _ => none) 0 [] []).mono
  have me : MonoE te := (he X.s_0 (fun _ => none) 0 [] []).mono
  obtain ⟨m, im⟩ := comp_imp (K := X.K) (C := C) g own hi.mono hv mt me
  exact ⟨m, pe_imp (pe_lc (te := lift (rE X.K) X.K C te) (tt := liftT X.K C tt) hc hN hi.run ok hg (fun s H A cl fp => (ht s H A cl fp).run) (fun s H A cl fp => (he s H A cl fp).run) hs) im⟩
theorem lift_ofF {K : PySem.W.Frag} {C : Ct} {t : TED} (m : MonoE t) {σ : L2.St} {H : Hp} {Q : VK} (h : lift (rE K) K C t σ H Q) : lift (rF K) K C t σ H Q := by
  obtain ⟨F, O, ρ, R, q⟩ := h
  refine ⟨F, O, ρ, R, m _ _ _ (fun d k v H' F' s R' r => ?_) q⟩
  cases d with
  | list ds =>
    obtain ⟨a, vs, e, hA, h1, h2, h3, h4⟩ := r
    obtain ⟨n1, n2, n3, _, _⟩ := R.np hA
    refine k v H' _ (Stp.freeze hA s) (R'.freeze n1 n2 n3 (by rw [h3]; simp) (by rw [h3]; intro ps z; cases z) h2) ⟨a, vs, e, .inr rfl, h3, ?_⟩
    exact RdL.keep (fun b => Or.inl) (fun _ _ z => z) (fun _ _ _ z => z) _ _ h4
  | _ => exact r.elim
/-- name = [..], on one line -/
theorem psd_setLc {X : Cx} {C : Ct} (i : Nat) {y : Str} {py : Pos} {elt tg iter : Expr} {ifs : List Expr} {scope : Scope} {pos spos : Pos} {ti : TID} {tt : TTD} {te : TED} (g : Tgt) (own : List (Str × Nat)) (hc : X.calm = true) (hN : X.N.Nodup) (hi : DI X C tg iter ti) (ok : BlkOk X.N X.env.scope scope own)
    (hv : ∀ i ∈ g.ixs, i ∈ own.map (·.2))
    (hg : ∀ (s : Shared) (H : Hp) (A : Addr) (cl : List (Str × Addr)) (fp : List Addr), PG (X.blk s H scope (compEnvC scope cl A X.env) fp) tg (gTgt X.K g))
    (ht : ∀ (s : Shared) (H : Hp) (A : Addr) (cl : List (Str × Addr)) (fp : List Addr), DTs (X.blk s H scope (compEnvC scope cl A X.env) fp) C ifs tt)
    (he : ∀ (s : Shared) (H : Hp) (A : Addr) (cl : List (Str × Addr)) (fp : List Addr), PD (X.blk s H scope (compEnvC scope cl A X.env) fp) C elt te) (hy : X.N[i]? = some y := by rfl) (hyl : X.env.scope.names.lookup y = some .local := by rfl)
    (hsw : swapsWith (.ListComp elt [⟨tg, iter, ifs, 0⟩] scope pos) (some (.Name y py)) spos.line X.env = pure true := by rfl) (hs : ∀ x, foldedSetIterable iter X.env x = pure x := by intro _; rfl) :
    PSD X C (.Assign [.Name y py] (.ListComp elt [⟨tg, iter, ifs, 0⟩] scope pos) spos) (sSet i (dComp ti g tt te (own.map (·.2)))) := by
  have mt : MonoT tt := (ht X.s_0 (fun _ => none) 0 [] []).mono
  have me : MonoE te := (he X.s_0 (fun _ => none) 0 [] []).mono
  obtain ⟨m, im⟩ := comp_imp (K := X.K) (C := C) g own hi.mono hv mt me
  refine ⟨fun D D' ρ l => m _ _ _ fun d => l.nx _, ps_imp (ps_setLc (te := lift (rE X.K) X.K C te) (tt := liftT X.K C tt) hc hN hy hyl hsw hi.run ok hg (fun s H A cl fp => (ht s H A cl fp).run) (fun s H A cl fp => (he s H A cl fp).run) hs) fun D σ H ⟨F, O, ρ, R, q⟩ => im _ _ _ (lift_ofF m ?_)⟩
  exact ⟨F, O, ρ, R, m _ _ _ (fun d k v H' F' s R' r => k F' O _ H' (FSt.of R s) (R'.setV i r)) q⟩
theorem psd_setLcF {X : Cx} {C : Ct} (i : Nat) {y : Str} {py : Pos} {elt tg iter : Expr} {ifs : List Expr} {scope : Scope} {pos spos : Pos} {ti : TID} {tt : TTD} {te : TED} (g : Tgt) (own : List (Str × Nat)) (hc : X.calm = true) (hN : X.N.Nodup) (hi : DI X C tg iter ti) (ok : BlkOk X.N X.env.scope scope own)
    (hv : ∀ i ∈ g.ixs, i ∈ own.map (·.2))
    (hg : ∀ (s : Shared) (H : Hp) (A : Addr) (cl : List (Str × Addr)) (fp : List Addr), PG (X.blk s H scope (compEnvC scope cl A X.env) fp) tg (gTgt X.K g))
    (ht : ∀ (s : Shared) (H : Hp) (A : Addr) (cl : List (Str × Addr)) (fp : List Addr), DTs (X.blk s H scope (compEnvC scope cl A X.env) fp) C ifs tt)
    (he : ∀ (s : Shared) (H : Hp) (A : Addr) (cl : List (Str × Addr)) (fp : List Addr), PD (X.blk s H scope (compEnvC scope cl A X.env) fp) C elt te) (hy : X.N[i]? = some y := by rfl) (hyl : X.env.scope.names.lookup y = some .local := by rfl)
    (hsw : swapsWith (.ListComp elt [⟨tg, iter, ifs, 0⟩] scope pos) (some (.Name y py)) spos.line X.env = pure true := by rfl) (hs : ∀ x, foldedSetIterable iter X.env x = pure x := by intro _; rfl) :
    PSD X C (.Assign [.Name y py] (.ListComp elt [⟨tg, iter, ifs, 0⟩] scope pos) spos) (sSetF i (dComp ti g tt te (own.map (·.2)))) := by
  have mt : MonoT tt := (ht X.s_0 (fun _ => none) 0 [] []).mono
  have me : MonoE te := (he X.s_0 (fun _ => none) 0 [] []).mono
  obtain ⟨m, im⟩ := comp_imp (K := X.K) (C := C) g own hi.mono hv mt me
  refine ⟨fun D D' ρ l => m _ _ _ fun d h => by cases d <;> first | exact l.nx _ h | exact h.elim, ps_imp (ps_setLc (te := lift (rE X.K) X.K C te) (tt := liftT X.K C tt) hc hN hy hyl hsw hi.run ok hg (fun s H A cl fp => (ht s H A cl fp).run) (fun s H A cl fp => (he s H A cl fp).run) hs) fun D σ H ⟨F, O, ρ, R, q⟩ => im _ _ _ ?_⟩
  refine ⟨F, O, ρ, R, m _ _ _ (fun d k v H' F' s R' r => ?_) q⟩
  cases d <;> first | exact r.elim | skip
  obtain ⟨a, vs, ea, n, h1, h2, h3, h4⟩ := r
  subst ea
  obtain ⟨n1, n2, n3, _, _⟩ := R.np n
  exact k F' _ _ H' (FSt.of R s) (R'.setF i h1 h2 n1 n2 n3 h3 h4)
/-- a look at a block's names -/
def blkB (N : List Str) (sc scope : Scope) (own : List (Str × Nat)) : Bool :=
  decide (scope.kind = .function) && scope.names.all (fun y => decide (scope.names.lookup y.1 = some y.2)) && own.all (fun p => decide (N[p.2]? = some p.1)) &&
  scope.names.all (fun y => !decide (y.2 = .free) || decide (sc.names.lookup y.1 = some .cell) || decide (sc.names.lookup y.1 = some .free)) &&
  scope.names.all (fun y => !(decide (y.2 = .local) || decide (y.2 = .cell)) || decide (y.1 ∈ own.map (·.1)) || !decide (y.1 ∈ N))
theorem blk_by {N : List Str} {sc scope : Scope} {own : List (Str × Nat)} (h : blkB N sc scope own = true) : BlkOk N sc scope own := by
  unfold blkB at h
  simp only [Bool.and_eq_true, decide_eq_true_eq, List.all_eq_true, Bool.or_eq_true, Bool.not_eq_true', decide_eq_false_iff_not, Bool.or_eq_false_iff] at h
  obtain ⟨⟨⟨⟨h1, h2⟩, h3⟩, h4⟩, h5⟩ := h
  refine ⟨h1, h2, h3, fun y hy e => ?_, fun y hy e => ?_⟩
  · rcases h4 y hy with (z | z) | z
    · exact absurd e z
    · exact .inl z
    · exact .inr z
  · rcases h5 y hy with (z | z) | z
    · rcases e with e | e
      · exact absurd e z.1
      · exact absurd e z.2
    · exact .inl z
    · exact .inr z
end DL

namespace DL
open PySem PySem.Spec PyProof.Rows L2

/-! ### a def by its body -/
def argSlot : Arg → Slot
  | .dat d => .val d
  | .raw v => .raw v
  | .deck => .deck
def startD (N : List Str) (as : List Arg) : List Slot := as.map argSlot ++ List.replicate (N.length - as.length) .un
abbrev never : XP := fun _ _ _ => False
theorem xo_none {X : Cx} {C : Ct} : XO X C never (L2.CX X.prog X.w) E0 := ⟨passL, fun _ _ _ h => h.elim⟩
def pxOf (K : PySem.W.Frag) (C : Ct) (E : XK) : XP := fun c nm d => ∀ dx v H' S', Stp C.q C.S0 S' C.H0 H' → DkOk C.q H' → LamX.Tabs C.q.w.T H' → FzOk C.q S' H' → H' dx = some (.xd [(nm, v)]) → Rdd K S' H' d v → E (.ref c) (some dx) H'
def wishOf (K : PySem.W.Frag) (C : Ct) (Q : VK) : D → Prop := fun d => ∀ v H' S', Stp C.q C.S0 S' C.H0 H' → DkOk C.q H' → LamX.Tabs C.q.w.T H' → FzOk C.q S' H' → Rdd K S' H' d v → Q v H'
theorem ArgsR.len {K : PySem.W.Frag} {q : Dq} {F : Addr → Prop} {H : Hp} : ∀ {as : List Arg} {vs : List V}, ArgsR K q F H as vs → vs.length = as.length
  | [], _, h => by rw [show _ = [] from h]; rfl
  | a :: as, _, ⟨v, r, e, _, h⟩ => by rw [e, List.length_cons, List.length_cons, ArgsR.len (as := as) h]
theorem ArgsR.get {K : PySem.W.Frag} {q : Dq} {F : Addr → Prop} {H : Hp} : ∀ {as : List Arg} {vs : List V} {i : Nat} {a : Arg}, ArgsR K q F H as vs → as[i]? = some a → ∃ v, vs[i]? = some v ∧ ArgR K q F H a v
  | [], _, _, _, _, e => by simp at e
  | a :: as, _, 0, _, ⟨v, r, e, h1, _⟩, e' => by simp at e'; subst e'; exact ⟨v, by rw [e]; rfl, h1⟩
  | a :: as, _, i + 1, _, ⟨v, r, e, _, h2⟩, e' => by
    obtain ⟨u, hu, hr⟩ := ArgsR.get (as := as) (i := i) h2 (by simpa using e')
    exact ⟨u, by rw [e]; simpa using hu, hr⟩
theorem rel_start {K : PySem.W.Frag} {q : Dq} {S : Addr → Prop} {H : Hp} {as : List Arg} {vs : List V} (N : List Str) (hd : DkOk q H) (ht : LamX.Tabs q.w.T H) (hf : FzOk q S H) (ra : ArgsR K q S H as vs) : Rel K ⟨q, H, S⟩ S (fun _ => []) (startD N as) (L2.start N vs) H where
  ln := by
    unfold startD L2.start
    simp only [List.length_append, List.length_map, List.length_replicate, ra.len]
    exact Nat.le_refl _
  dk := hd
  tb := ht
  fz := hf
  kp := KpX.refl _ _
  up := fun _ h => h
  nw := fun _ h => .inl h
  sl := fun i s e => by
    have hl := ra.len
    by_cases hi : i < as.length
    · unfold startD at e
      rw [List.getElem?_append_left (by simpa using hi), List.getElem?_map] at e
      cases ea : as[i]? with
      | none => rw [ea] at e; cases e
      | some a =>
        rw [ea] at e
        cases e
        obtain ⟨v, hv, hr⟩ := ra.get ea
        have z : (L2.start N vs)[i]? = some (some v) := by
          unfold L2.start
          rw [List.getElem?_append_left (by rw [List.length_map, hl]; exact hi), List.getElem?_map, hv]; rfl
        rw [z]
        cases a with
        | dat d => exact ⟨v, rfl, hr⟩
        | raw u => cases hr; rfl
        | deck => cases hr; rfl
    · unfold startD at e
      rw [List.getElem?_append_right (by simpa using hi), List.getElem?_replicate] at e
      split at e
      · cases e; exact True.intro
      · cases e
  oo := fun i a ha => nomatch ha
  dj := fun i j _ a ha => nomatch ha
theorem FnR.mono {G G' : Around → Prop} {P : Program} {w : World} {K : PySem.W.Frag} {mg : Str → Option Value} {base : Heap} {CX : CXT} {k j : Nat} {f : Addr} {fd : FuncData} {ps : List Str} {sp : Sp} (F : FnR G P w K mg base CX j f fd ps sp) (h : j ≤ k) (g : ∀ A, G' A → G A) : FnR G' P w K mg base CX k f fd ps sp :=
  ⟨F.len, fun A outer s H args us vs Q E hr hg => F.run A outer s H args us vs Q E (hr.mono h) (g A hg)⟩
/-- a def keeps its promise -/
theorem fnr_mk {G : Around → Prop} {P : Program} {w : World} {K : PySem.W.Frag} {mg : Str → Option Value} {base : Heap} {k : Nat} {f : Addr} {x qual : Str} {st : Stmt} {fd : FuncData} {N ps : List Str} {wd : Wd} {Fd : FD}
    (F : L2.Fun K x qual st f fd) (S : FnScope N ps (defScope st)) (hGd : ∀ A env, G A → G (A.deeper env)) (len : ∀ as Q Z, Fd.run as Q Z → as.length = ps.length)
    (hbody : ∀ (cdv : Value), fd.code = cdv → ∀ (A : Around) (outer : List Env) (s : Shared) (H : Hp) (E : XK) (C : Ct) (px : XP), Room k (A.deeper (envOfC qual (defScope st) s.heap.objs.size f cdv)) → G (A.deeper (envOfC qual (defScope st) s.heap.objs.size f cdv)) → C.q.w = wd →
      XO (cxOf (L2.CX P w) P w K mg base N qual (defScope st) f cdv A outer s H E) C px (L2.CX P w) E →
      ∀ as Q, Fd.run as Q px → ∃ t, PSDs (cxOf (L2.CX P w) P w K mg base N qual (defScope st) f cdv A outer s H E) C (defBody st) t ∧ t { nx := fun _ => Q .none, rt := Q } (startD N as)) :
    FnR G P w K mg base (L2.CX P w) (k + 1) f fd ps (spD K wd Fd) := by
  obtain ⟨oc, od, kV, doc, pm, an, cdv, ct, osl, rfl, lk, hcd⟩ := F.ex
  have hlen : ∀ vs H Q E, spD K wd Fd vs H Q E → vs.length = ps.length := fun vs H Q E ⟨q, S, as, _, _, _, _, ra, hr⟩ => by rw [ra.len]; exact len _ _ _ hr
  refine ⟨hlen, fun A outer s H args us vs Q E hr hg e0 hb r hsp => ?_⟩
  refine LamX.run_ofS (N := N) (ps := ps) (us := us) (vs := vs) lk hcd S hr e0 hb r (hlen _ _ _ _ hsp) fun hr' => ?_
  obtain ⟨q, S0, as, rfl, hd, ht, hf, ra, hrun⟩ := hsp
  obtain ⟨t, hp, hq⟩ := hbody cdv rfl A outer s H E ⟨q, H, S0⟩ (pxOf K ⟨q, H, S0⟩ E) hr' (hGd _ _ hg) rfl
    ⟨fun pins σ H1 s1 e s' I c => passes_call (L2.takes_of rfl rfl rfl rfl) (fun _ _ _ _ h => h) pins σ H1 s1 e s' I c,
      fun c nm d h dx v F O ρ σ H' R e r => h dx v H' F ⟨R.kp, R.up, R.nw⟩ R.dk R.tb R.fz e r⟩ as (wishOf K ⟨q, H, S0⟩ Q) hrun
  refine ⟨_, hp.run, S0, fun _ => [], startD N as, rel_start N hd ht hf ra, hp.mono { nx := fun _ => wishOf K ⟨q, H, S0⟩ Q .none, rt := wishOf K ⟨q, H, S0⟩ Q } _ _ ⟨fun ρ h F' O' σ' H' s R => ?_, fun d h v F' O' ρ' σ' H' s R r => ?_, fun _ h => h.elim, fun _ h => h.elim⟩ hq⟩
  · exact h .non H' F' ⟨R.kp, R.up, R.nw⟩ R.dk R.tb R.fz rfl
  · exact h v H' F' ⟨R.kp, R.up, R.nw⟩ R.dk R.tb R.fz r
theorem own_of {P : Program} {w : World} {K : PySem.W.Frag} {mg : Str → Option Value} {base : Heap} {N : List Str} {qual : Str} {scope : Scope} {f : Addr} {cd : Value} {A : Around} {outer : List Env} {s : Shared} {H : Hp} {E : XK} :
    PassesOwn (model P w) (cxOf (L2.CX P w) P w K mg base N qual scope f cd A outer s H E).A (cxOf (L2.CX P w) P w K mg base N qual scope f cd A outer s H E).env (cxOf (L2.CX P w) P w K mg base N qual scope f cd A outer s H E).xe :=
  passes_of rfl
/-- no repr of an outer thing is under way -/
def NoGu (A : Around) : Prop := A.guards = some []
theorem noGu_deeper (A : Around) (env : Env) (h : NoGu A) : NoGu (A.deeper env) := h
abbrev Tru : Around → Prop := fun _ => True
theorem tru_deeper (A : Around) (env : Env) (h : Tru A) : Tru (A.deeper env) := True.intro
end DL

namespace DL
open PySem PySem.Spec PyProof.Rows L2

/-! ### t[::-1] of a tuple -/
theorem backAdjust (n : Nat) : Builtin.Slice.sliceAdjust none none (-1) (n : Int) = ((n : Int) - 1, -1) := by
  unfold Builtin.Slice.sliceAdjust
  rfl
theorem backPlaces (n : Nat) : Builtin.Slice.slicePlaces ((n : Int) - 1) (-1) (-1) = n := by
  unfold Builtin.Slice.slicePlaces
  rw [if_neg (by decide)]
  by_cases h : n = 0
  · subst h; decide
  · rw [if_pos (by omega)]
    have : ((n : Int) - 1 - -1 - 1) / - -1 + 1 = n := by
      rw [show -(-1 : Int) = 1 from rfl, Int.ediv_one]
      omega
    rw [this]
    exact Int.toNat_natCast n
theorem fm_eq {α β : Type} {f : α → Option β} {g : α → β} : ∀ {l : List α}, (∀ x ∈ l, f x = some (g x)) → l.filterMap f = l.map g
  | [], _ => rfl
  | a :: l, h => by rw [List.filterMap_cons_some (h a List.mem_cons_self), List.map_cons, fm_eq fun x hx => h x (List.mem_cons_of_mem _ hx)]
theorem backPick (xs : Array Value) : ((List.range xs.size).filterMap fun (m : Nat) => xs[(((xs.size : Int) - 1) + (m : Int) * (-1)).toNat]?).toArray = xs.toList.reverse.toArray := by
  congr 1
  apply List.ext_getElem?
  intro i
  have e : (List.range xs.size).filterMap (fun (m : Nat) => xs[(((xs.size : Int) - 1) + (m : Int) * (-1)).toNat]?) = (List.range xs.size).map fun m => xs.getD (xs.size - 1 - m) .none := by
    refine fm_eq fun m hm => ?_
    have hm := List.mem_range.mp hm
    have : (((xs.size : Int) - 1) + (m : Int) * (-1)).toNat = xs.size - 1 - m := by omega
    rw [this]
    have h2 : xs.size - 1 - m < xs.size := by omega
    simp [Array.getD, h2]
  rw [e]
  by_cases hi : i < xs.size
  · rw [List.getElem?_map, List.getElem?_range hi, List.getElem?_reverse (by simpa using hi)]
    have h2 : xs.size - 1 - i < xs.size := by omega
    simp [Array.getD, h2]
  · rw [List.getElem?_eq_none (by simpa using Nat.le_of_not_lt hi), List.getElem?_eq_none (by simpa using Nat.le_of_not_lt hi)]
section
variable {prog : Program} {w : World} {A : Around} {E : Value → Shared → Prop} {s : Shared}
theorem sliceBack {sl : Addr} {vs : Value} {n : Nat} {Q : Int × Int × Nat → Shared → Prop} (hs : s.heap.IsSliceOf sl .none .none vs) (ps : IsPart vs (some (-1))) (h : Q ((n : Int) - 1, -1, n) s) : wpAny (model prog w) A (Builtin.Slice.sliceApplied (.ref sl) (pure (n : Int))) Q E s := by
  obtain ⟨os, hos, hcs, hds⟩ := id hs
  unfold Builtin.Slice.sliceApplied Builtin.Slice.sliceFields
  refine wpAny_bind (wpAny_bind (wpAny_field hos hds (x := .none) rfl (wpAny_bind (wpAny_field hos hds (x := .none) rfl (wpAny_bind (wpAny_field hos hds (x := vs) rfl (wpAny_pure ?_)))))))
  refine wpAny_bind (HT.slicePart_ ps ?_)
  show wpAny _ _ (if ((-1 : Int) == 0) = true then _ else _) _ _ s
  rw [if_neg (by decide)]
  refine wpAny_bind (slicePart_none (wpAny_bind (slicePart_none (wpAny_bind (wpAny_pure ?_)))))
  show wpAny _ _ (match Builtin.Slice.sliceAdjust none none (-1) (n : Int) with | (lo, hi) => pure (lo, (-1 : Int), Builtin.Slice.slicePlaces lo hi (-1))) _ _ s
  rw [backAdjust n]
  show wpAny _ _ (pure (((n : Int) - 1), (-1 : Int), Builtin.Slice.slicePlaces ((n : Int) - 1) (-1) (-1))) _ _ s
  rw [backPlaces]
  exact wpAny_pure h
theorem tupBack {t sl : Addr} {items : Array Value} {vs : Value} {Q : Value → Shared → Prop} (ht : IsTup s.heap t items) (hs : s.heap.IsSliceOf sl .none .none vs) (ps : IsPart vs (some (-1)))
    (h : Q (.ref s.heap.objs.size) { s with heap := s.heap.push { cls := .type "tuple", data := .seq items.toList.reverse.toArray } }) (hsz : items.size ≤ sizeLine) : wpAny (model prog w) A (getItem (.ref t) (.ref sl)) Q E s := by
  have hfit : sizeOk (.seq items.toList.reverse.toArray) := by
    show items.toList.reverse.toArray.size ≤ sizeLine
    simpa using hsz
  obtain ⟨os, hos, hcs, hds⟩ := id hs
  have hTs : s.TypeIs (.ref sl) "slice" := ⟨os, hos, hcs⟩
  unfold getItem
  try with_reducible refine wpAny_holding ?_
  first | refine wpAny_bind (wpAny_pure ?_) | skip
  refine wpAny_bind (wpAny_sequenceKey ht.typeIs (by decide) ?_)
  refine wpAny_bind (wpAny_callSpecial?_slot (name := Str.ofString "__getitem__") ht.typeIs PyProof.Rows.slot_tuple_getitem
    (wpAny_call_entry PyProof.Rows.slot_tuple_getitem ht.typeIs entry_tuple_getitem ?_ (args_tuple_getitem _ _)))
  show wpAny _ _ (Builtin.Tuple.tupleItemsOf (.ref t) >>= _) _ _ s
  refine wpAny_bind (tupleItemsOf_ ht ?_)
  refine wpAny_bind (wpAny_typeOf hTs ?_)
  rw [if_pos (by decide)]
  refine wpAny_bind (sliceBack hs ps ?_)
  have hno : ¬ ((((items.size : Int) - 1) == 0 && (-1 : Int) == 1 && items.size == items.size) = true) := by
    intro q
    rw [Bool.and_eq_true, Bool.and_eq_true] at q
    exact absurd (eq_of_beq q.1.2) (by decide)
  show wpAny _ _ (if ((((items.size : Int) - 1) == 0 && (-1 : Int) == 1 && items.size == items.size) = true) then _ else _) _ _ s
  rw [if_neg hno, backPick]
  first
    | exact wpAny_bind (m := Builtin.Tuple.tupleExact _) (wpAny_newObj_type (wpAny_pure ⟨_, rfl, wpAny_pure h⟩) hfit)
    | exact wpAny_bind (m := Builtin.Tuple.tupleExact _) (wpAny_newObj_type (wpAny_bind (wpAny_pure (wpAny_pure ⟨_, rfl, wpAny_pure h⟩))) hfit)
    | exact wpAny_bind (wpAny_bind (m := Builtin.Tuple.tupleExact _) (wpAny_newObj_type (wpAny_pure (wpAny_pure ⟨_, rfl, wpAny_pure h⟩)) hfit))
    | exact wpAny_bind (wpAny_bind (m := Builtin.Tuple.tupleExact _) (wpAny_newObj_type (wpAny_pure ⟨_, rfl, wpAny_pure h⟩) hfit))
end
def tRevT (K : PySem.W.Frag) (te : TE) : TE := fun σ H Q => te σ H fun x H1 => ∃ a xs, x = .ref a ∧ SqT K H1 a xs ∧ ∀ p, H1 p = none → Q (.ref p) (upd H1 p (.tup xs.reverse))
theorem pe_revT {X : Cx} {e : Expr} {te : TE} {k : Nat} {p1 p2 p3 pos : Pos} (he : PE X e te) : PE X (.Subscript e (.Slice none none (some (.UnaryOp .USub (.Constant (.int 1) k p1) p2)) p3) pos) (tRevT X.K te) := by
  refine ⟨fun pins s σ H Q I h => ?_⟩
  refine Subscript_ (thn (he.run pins s σ H _ I h) fun v s1 ⟨x, H1, I1, r1, q1⟩ => ?_)
  obtain ⟨a, xs, rfl, hx, q⟩ := q1
  cases r1
  have hst : L2.PO X (some (.UnaryOp .USub (.Constant (.int 1) k p1) p2)) (tPart (tUn (rU fun i => .int (-i)) (tC (.int 1)))) := po_some (pe_un un_neg pe_int)
  refine wpAny_Slice (thn (po_none.run pins s1 σ H1 (fun o H2 => o = none ∧ H2 = H1) I1 ⟨rfl, rfl⟩) fun vl s2 ⟨l, H2, I2, pl, el, e2⟩ => ?_)
  subst el e2
  refine thn (po_none.run pins s2 σ H2 (fun o H3 => o = none ∧ H3 = H2) I2 ⟨rfl, rfl⟩) fun vu s3 ⟨u, H3, I3, pu, eu, e3⟩ => ?_
  subst eu e3
  refine thn (hst.run pins s3 σ H3 (fun o H4 => o = some (-1) ∧ H4 = H3) I3 ⟨1, rfl, -1, rfl, rfl, rfl⟩) fun vs s4 ⟨o, H4, I4, ps, eo, e4⟩ => ?_
  subst eo e4
  have I5 : Inv X pins σ H4 { s4 with heap := s4.heap.push { cls := .type "slice", data := .fields #[vl, vu, vs] } } := I4.kept (t' := s4.toks) fun b ob q => Heap.get?_push_of_some _ q
  obtain ⟨its, r, ht, hz⟩ := I5.tuple hx
  cases pl
  cases pu
  show wpAny (model X.prog X.w) X.A (subscriptTail e (.Slice none none (some (.UnaryOp .USub (.Constant (.int 1) k p1) p2)) p3) (.ref a) (.ref s4.heap.objs.size)) (EP X pins σ Q) X.xe { s4 with heap := s4.heap.push { cls := .type "slice", data := .fields #[.none, .none, vs] } }
  refine tail_any (ops := [.ref a, .ref s4.heap.objs.size]) ht.typeIs (PyProof.Rows.slot_tuple_getitem.lookup) ?_ (by with_unfolding_all rfl)
  refine tupBack ht (Heap.IsSliceOf.new _ .none .none vs) ps ?_ (by rw [List.size_toArray, ← r.length]; exact hz)
  refine ⟨.ref _, _, I5.laid (t' := s4.toks) (o := .tup xs.reverse) (fun b ob q => Heap.get?_push_of_some _ q) (Nat.le_refl _) ?_, rfl, q _ (I5.hok.fresh (Nat.le_refl _))⟩
  refine ⟨by rw [List.length_reverse]; exact hz, _, r.reverse, ?_⟩
  exact IsTup.new _ _
def gRevT : D → (D → Prop) → Prop
  | .tuple ds, P => P (.tuple ds.reverse)
  | _, _ => False
section
variable {X : Cx} {C : Ct} {e : Expr} {te : TED}
theorem pd_revT {k : Nat} {p1 p2 p3 pos : Pos} (he : PO X C e te) : PD X C (.Subscript e (.Slice none none (some (.UnaryOp .USub (.Constant (.int 1) k p1) p2)) p3) pos) (dUn gRevT te) :=
  pv_1 (r := fun x H Q => ∃ a xs, x = .ref a ∧ SqT X.K H a xs ∧ ∀ p, H p = none → Q (.ref p) (upd H p (.tup xs.reverse))) pe_revT (fun {F O ρ σ H x v Q} R rx h => by
    cases x <;> first | exact h.elim | skip
    obtain ⟨a, vs, e1, t1, r1⟩ := rx
    refine ⟨a, vs, e1, t1, fun p n => ?_⟩
    obtain ⟨s, R', r⟩ := new_tup R r1.rev n
    exact h _ _ _ s R' r) (fun x P P' k h => by cases x <;> first | exact h.elim | exact k _ h) he
end
end DL

namespace DL
open PySem PySem.Spec PyProof.Rows L2

/-! ### isinstance -/
def tyN : D → String
  | .none => "NoneType"
  | .bool _ => "bool"
  | .int _ => "int"
  | .str _ => "str"
  | .tuple _ => "tuple"
  | .list _ => "list"
  | .dict _ => "dict"
def isaN (t T : String) : Bool := t == T || (t == "bool" && T == "int")
abbrev isa (d : D) (T : String) : Bool := isaN (tyN d) T
def kitsFor (T : String) : Prop := ∀ d : D, kitB (tyN d) T = some (isa d T)
theorem kits_of {T : String} (h : ["NoneType", "bool", "int", "str", "tuple", "list", "dict"].all (fun t => decide (kitB t T = some (isaN t T))) = true) : kitsFor T := fun d => by
  have key : tyN d ∈ ["NoneType", "bool", "int", "str", "tuple", "list", "dict"] := by cases d <;> simp [tyN]
  exact of_decide_eq_true (List.all_eq_true.mp h _ key)
theorem kits_int : kitsFor "int" := kits_of (by decide +kernel)
theorem kits_bool : kitsFor "bool" := kits_of (by decide +kernel)
theorem kits_tuple : kitsFor "tuple" := kits_of (by decide +kernel)
theorem kits_list : kitsFor "list" := kits_of (by decide +kernel)
theorem kits_str : kitsFor "str" := kits_of (by decide +kernel)
theorem kits_dict : kitsFor "dict" := kits_of (by decide +kernel)
theorem tyx_of {K : PySem.W.Frag} {F : Addr → Prop} {O : Fps} {H₀ H : Hp} {d : D} {v : V} (r : rO K F O H₀ H d v) : TyX K H v (.type (tyN d)) := by
  cases d with
  | none => cases r; exact .base .non
  | bool b => cases r; exact .base (.bl _)
  | int i => cases r; exact .base (.int _)
  | str x => cases r; exact .base (.str _)
  | tuple ds =>
    obtain ⟨a, vs, rfl, t, _⟩ := r
    rcases t with (t | ⟨o, t⟩) | ⟨o, its, n, e, c, _⟩
    · exact .base (.tup t)
    · exact .fTuple t
    · exact .kTuple e c
  | list ds =>
    obtain ⟨a, vs, rfl, _, t, _⟩ := r
    exact .base (.lst t)
  | dict kvs =>
    obtain ⟨a, ps, rfl, _, t, _⟩ := r
    exact .base (.dK t)
def gIsi (T : String) : D → (D → Prop) → Prop := fun d P => P (.bool (isa d T))
theorem mo_gIsi {T : String} : Mo1 (gIsi T) := fun x P P' k h => k _ h
section
variable {X : Cx} {C : Ct} {e a b : Expr} {te ta tb : TED} {p p2 pos : Pos}
theorem pd_isi (T : String) {x : Str} (kt : kitsFor T) (hg : Gl X "isinstance") (hm : X.mg "isinstance" = none) (hg2 : Gl X x) (hm2 : X.mg x = none) (hv2 : bootBuiltins x = some (.type T)) (he : PO X C e te) (hn2 : x ≠ "__name__" := by decide) (hd2 : (x == ("__debug__" : Str)) = false := by decide)
    (hs : starEach [e, .Name x p2] X.env = (false, eval e X.env) :: starEach [.Name x p2] X.env := by rfl) (hs2 : starEach [.Name x p2] X.env = (false, eval (.Name x p2) X.env) :: starEach [] X.env := by rfl)
    (hpl : (backTo pos (starEach [.Name x p2] X.env)).any (·.1) = false := by rfl) : PD X C (.Call (.Name "isinstance" p) [e, .Name x p2] [] pos) (dUn (gIsi T) te) :=
  pv_1 (r := fun v H Q => rIsi X.K [v, .ty T] H Q) (fun {t} h => pe_imp (pe_callB call_isi hg hm (by decide +kernel) (pa_cons h (pa_cons (pe_bltn (v := .ty T) hg2 hm2 hv2 rfl hn2 hd2) pa_nil hs2) hs) (by decide) (by decide) hs hpl) fun σ H Q q => q)
    (fun {F O ρ σ H x v Q} R rx h => ⟨v, .ty T, .type (tyN x), .type T, isa x T, rfl, .ty T, tyx_of rx, kit_ty (kt x), h _ _ _ (Stp.refl _ _ _) R rfl⟩) mo_gIsi he
/-! xs == [], xs != [] for a list of any things -/
def gNil (neg : Bool) : D → (D → Prop) → Prop
  | .list ds, P => P (.bool (if neg then !ds.isEmpty else ds.isEmpty))
  | _, _ => False
theorem mo_gNil {neg : Bool} : Mo1 (gNil neg) := fun x P P' k h => by cases x <;> first | exact h.elim | exact k _ h
def rEqNil (K : PySem.W.Frag) (neg : Bool) : R2 := fun x y H Q => ∃ a b xs, x = .ref a ∧ y = .ref b ∧ SqL K H a xs ∧ H b = some (.lst []) ∧ Q (.bl (if neg then !xs.isEmpty else xs.isEmpty)) H
theorem nil_lists {pins : List (Addr × Obj)} {σ : L2.St} {H : Hp} {s : Shared} {a b : Addr} {xs : List V} (I : Inv X pins σ H s) (ha : SqL X.K H a xs) (hb : H b = some (.lst [])) :
    ∃ its n o, Vals xs its ∧ s.heap.get? a = some o ∧ o.cls = .type "list" ∧ o.data = .seq its.toArray n ∧ s.heap.IsList a its.toArray ∧ s.heap.IsList b #[] ∧ ∃ n2 o2, s.heap.get? b = some o2 ∧ o2.cls = .type "list" ∧ o2.data = .seq #[] n2 := by
  obtain ⟨its, rv, p1, hz⟩ := I.list ha
  obtain ⟨its2, rv2, p2, hz2⟩ := I.list (SqL.of hb : SqL X.K H b [])
  cases rv2
  have q1 := p1.isList
  have q2 := p2.isList
  obtain ⟨o1, n1, e1, c1, d1, w1⟩ := p1
  obtain ⟨o2, n2, e2, c2, d2, w2⟩ := p2
  exact ⟨its, n1, o1, rv, e1, c1, w1, q1, q2, n2, o2, e2, c2, w2⟩
theorem op_eqNil (hu : X.A.units + 64 < cLine) : OpR X (compareOp .Eq) (rEqNil X.K false) := by
  intro pins s σ H x y v u Q I rx ry h
  obtain ⟨a, b, xs, rfl, rfl, ha, hb, q⟩ := h
  cases rx
  cases ry
  obtain ⟨its, n, o, rv, e1, c1, d1, l1, l2, n2, o2, e2, c2, d2⟩ := nil_lists I ha hb
  cases xs with
  | nil =>
    cases rv
    exact SeqAt.compareEq_shaped (Reads.list e1 c1 d1 .nil) (Reads.list e2 c2 d2 .nil) (by decide) (by decide) hu ⟨.bl _, H, I, rfl, q⟩
  | cons x xs =>
    cases rv with
    | cons r0 rr => exact SeqAt.eq_list_lengthsAt l1 l2 (by simp) (by omega) ⟨.bl _, H, I, rfl, q⟩
theorem op_neNil (hu : X.A.units + 64 < cLine) : OpR X (compareOp .NotEq) (rEqNil X.K true) := by
  intro pins s σ H x y v u Q I rx ry h
  obtain ⟨a, b, xs, rfl, rfl, ha, hb, q⟩ := h
  cases rx
  cases ry
  obtain ⟨its, n, o, rv, e1, c1, d1, l1, l2, n2, o2, e2, c2, d2⟩ := nil_lists I ha hb
  cases xs with
  | nil =>
    cases rv
    exact SeqAt.compareNe_shaped (Reads.list e1 c1 d1 .nil) (Reads.list e2 c2 d2 .nil) (by decide) (by decide) hu ⟨.bl _, H, I, rfl, q⟩
  | cons x xs =>
    cases rv with
    | cons r0 rr => exact SeqAt.RcNeAt.lists_lengths l1 l2 (by simp) (by omega) X.prog X.w X.xe _ ⟨.bl _, H, I, rfl, q⟩
end
theorem room_u {k : Nat} {A : Around} (r : Room k A) : A.units + 64 < cLine := by have := r.un; omega
section
variable {X : Cx} {C : Ct} {e a b : Expr} {te ta tb : TED} {p p2 pos : Pos}
def dEqNil (neg : Bool) (te : TED) : TED := fun ρ P => te ρ fun d => gNil neg d P
theorem by_nil {neg : Bool} {F : Addr → Prop} {O : Fps} {ρ : List Slot} {σ : L2.St} {H H1 : Hp} {x : D} {v : V} {Q : VK} {b : Addr} (R : Rel X.K C F O ρ σ H1) (rx : rO X.K F O H H1 x v) (hb : H1 b = some (.lst [])) (h : gNil neg x fun z => ∀ vz, Rdd X.K F H1 z vz → Q vz H1) : rEqNil X.K neg v (.ref b) H1 Q := by
  cases x <;> first | exact h.elim | skip
  obtain ⟨a, vs, rfl, _, hl, r⟩ := rx
  refine ⟨a, b, vs, rfl, rfl, SqL.of hl, hb, ?_⟩
  have e : vs.isEmpty = ‹List D›.isEmpty := by
    have := r.len
    cases vs <;> cases ‹List D› <;> first | rfl | (simp at this)
  rw [e]
  exact h _ rfl
theorem run_nil {neg : Bool} {op : CmpOp} (ho : OpR X (compareOp op) (rEqNil X.K neg)) (he : PO X C e te) (hnm : ∀ {t u : TE}, PE X e t → PE X (.List [] p2) u → PE X (.Compare e [op] [.List [] p2] pos) (tOp (rEqNil X.K neg) t u)) : PD X C (.Compare e [op] [.List [] p2] pos) (dEqNil neg te) := by
  refine ⟨fun ρ P P' k => he.mono _ _ _ fun d => mo_gNil d _ _ k, pe_imp (hnm he.run (pe_lst pa_nil)) fun σ H Q ⟨F, O, ρ, R, q⟩ => ⟨F, O, ρ, R, he.mono _ _ _ (fun d k v H1 F1 s1 R1 r1 => ?_) q⟩⟩
  refine ⟨Nat.zero_le _, fun p n => ?_⟩
  have R2 := R1.new (o := .lst []) n
  refine by_nil (H := H1) R2 ?_ upd_same (mo_gNil d _ _ (fun z hz vz rz => hz vz _ F1 (s1.trans (Stp.new n)) R2 rz) k)
  have z := rO_stp R1 (Stp.new (o := .lst []) n) (show rO X.K F1 O H1 H1 d v from by cases d <;> exact r1)
  cases d <;> exact z
theorem pd_eqNil (hu : X.A.units + 64 < cLine) (he : PO X C e te) : PD X C (.Compare e [.Eq] [.List [] p2] pos) (dEqNil false te) := run_nil (op_eqNil hu) he fun h h' => pe_cmpR (op_eqNil hu) h h' (nomark _)
theorem pd_neNil (hu : X.A.units + 64 < cLine) (he : PO X C e te) : PD X C (.Compare e [.NotEq] [.List [] p2] pos) (dEqNil true te) := run_nil (op_neNil hu) he fun h h' => pe_cmpR (op_neNil hu) h h' (nomark _)
/-! list * int -/
def gRep : D → D → (D → Prop) → Prop
  | .list ds, .int k, P => (0 ≤ k ∧ k ≤ 1000000 ∧ ds.length * k.toNat ≤ sizeLine) ∧ P (.list (List.replicate k.toNat ds).flatten)
  | _, _, _ => False
theorem mo_gRep : Mo2 gRep := fun x y P P' k h => by
  cases x <;> first | exact h.elim | (cases y <;> first | exact h.elim | exact ⟨h.1, k _ h.2⟩)
theorem RdL.rep {K : PySem.W.Frag} {S : Addr → Prop} {H : Hp} {ds : List D} {vs : List V} (r : RdL K S H ds vs) : ∀ n : Nat, RdL K S H (List.replicate n ds).flatten (List.replicate n vs).flatten := fun n => by
  induction n with
  | zero => exact rfl
  | succ n ih => rw [List.replicate_succ, List.flatten_cons, List.replicate_succ, List.flatten_cons]; exact r.append ih
theorem pf_rep (ha : PO X C a ta) (hb : PO X C b tb) : PF X C (.BinOp a .Mult b pos) (dBi gRep ta tb) := pv_2 (pe_op op_rep) (fun {F O ρ σ H x y v u Q} R rx ry h => by
  cases x <;> first | exact h.elim | skip
  cases y <;> first | exact h.elim | skip
  obtain ⟨l, xs, rfl, _, hl, r⟩ := rx
  obtain ⟨⟨h1, h2, h3⟩, q⟩ := h
  refine ⟨l, _, xs, rfl, ry, hl, by omega, by omega, by rw [r.len]; exact h3, fun p n => ?_⟩
  obtain ⟨s, R', r'⟩ := new_lst R (r.rep _) n
  exact q _ _ _ s R' r') mo_gRep ha hb
end
end DL

namespace DL
open PySem PySem.Spec PyProof.Rows L2

/-! ### repr of data -/
section
variable {X : Cx} {pins : List (Addr × Obj)} {σ : L2.St} {H : Hp} {s : Shared} {S : Addr → Prop}
theorem reads_key {key : Key} {u : Value} (h : (mixKind X.prog X.w).is key u = true) : ∃ as, Reads s.heap u (kD key) as ∧ sysModules ∉ as := by
  rcases keyIs_shape h with ⟨i, t, rfl, rfl⟩ | ⟨x, t, rfl, rfl⟩
  · exact ⟨[], Reads.int i t, nofun⟩
  · exact ⟨[], Reads.str x t, nofun⟩
mutual
theorem Rdd.reads (I : Inv X pins σ H s) (hs : ∃ o φ, H sysModules = some (.frz o (.ext φ))) : ∀ (d : D) (v : V) (u : Value), Rdd X.K S H d v → RelV v u → ∃ as, Reads s.heap u d as ∧ sysModules ∉ as
  | .none, _, _, h, r => by
    cases h; cases r
    exact ⟨[], Reads.none, nofun⟩
  | .bool b, _, _, h, r => by
    cases h; cases r
    exact ⟨[], Reads.bool b, nofun⟩
  | .int i, _, _, h, r => by
    cases h
    obtain ⟨t, rfl⟩ := r
    exact ⟨[], Reads.int i t, nofun⟩
  | .str x, _, _, h, r => by
    cases h
    obtain ⟨t, rfl⟩ := r
    exact ⟨[], Reads.str x t, nofun⟩
  | .tuple ds, _, _, ⟨a, vs, e, ht, hr⟩, r => by
    subst e
    cases r
    obtain ⟨its, rv, ⟨o, ho, hc, n, hd⟩, _⟩ := I.tuple ht
    obtain ⟨as, q, z⟩ := RdL.reads I hs ds vs its hr rv
    exact ⟨as, Reads.tuple ho hc hd q, z⟩
  | .list ds, _, _, ⟨a, vs, e, hS, hl, hr⟩, r => by
    subst e
    cases r
    obtain ⟨its, rv, p, _⟩ := I.list (SqL.of hl : SqL X.K H a vs)
    obtain ⟨o, n, ho, hc, _, hd⟩ := p
    obtain ⟨as, q, z⟩ := RdL.reads I hs ds vs its hr rv
    refine ⟨a :: as, Reads.list ho hc hd q, fun hm => ?_⟩
    rcases List.mem_cons.mp hm with e | hm
    · obtain ⟨ob, φ, e2⟩ := hs
      rw [e, hl] at e2
      cases e2
    · exact z hm
  | .dict kvs, _, _, ⟨a, ps, e, hS, hl, hr⟩, r => by
    subst e
    cases r
    obtain ⟨_, hne, vs, rk, o, es, ep, ho, ex, hd, _, hp, _⟩ := dk_of I.hok hl
    obtain ⟨as, bs, q1, q2, z⟩ := RdK.reads I hs kvs ps vs es.toList hr rk hp
    refine ⟨a :: as ++ bs, Reads.dict ho ex.1 hd q1 q2, fun hm => ?_⟩
    rcases List.mem_cons.mp hm with e | hm
    · rw [e] at hne
      simp at hne
    · exact z hm
theorem RdL.reads (I : Inv X pins σ H s) (hs : ∃ o φ, H sysModules = some (.frz o (.ext φ))) : ∀ (ds : List D) (vs : List V) (us : List Value), RdL X.K S H ds vs → Vals vs us → ∃ as, ReadsAll s.heap us ds as ∧ sysModules ∉ as
  | [], _, _, h, r => by
    rw [show _ = [] from h] at r
    cases r
    exact ⟨[], ReadsAll.nil, nofun⟩
  | d :: ds, _, _, ⟨v, rest, e, h1, h2⟩, r => by
    subst e
    cases r with
    | cons r1 r2 =>
      obtain ⟨as, q1, z1⟩ := Rdd.reads I hs d _ _ h1 r1
      obtain ⟨bs, q2, z2⟩ := RdL.reads I hs ds _ _ h2 r2
      exact ⟨as ++ bs, ReadsAll.cons q1 q2, fun hm => (List.mem_append.mp hm).elim z1 z2⟩
theorem RdK.reads (I : Inv X pins σ H s) (hs : ∃ o φ, H sysModules = some (.frz o (.ext φ))) : ∀ (kvs : List (D × D)) (ps : List (Key × V)) (vs : List (Key × Value)) (es : List DictEntry), RdK X.K S H kvs ps → KV ps vs → Pairs (mixKind X.prog X.w) es vs →
    ∃ as bs, ReadsAll s.heap (es.map (·.key)) (kvs.map (·.1)) as ∧ ReadsAll s.heap (es.map (·.val)) (kvs.map (·.2)) bs ∧ sysModules ∉ as ++ bs
  | [], _, _, _, h, r, p => by
    rw [show _ = [] from h] at r
    cases r
    cases p
    exact ⟨[], [], ReadsAll.nil, ReadsAll.nil, nofun⟩
  | (k, d) :: kvs, _, _, _, ⟨key, v, rest, e, ek, h1, h2⟩, r, p => by
    subst e
    cases r with
    | @cons _ q _ qs r1 r2 =>
      cases p with
      | cons p1 p2 p3 =>
        obtain ⟨as, bs, q1, q2, z⟩ := RdK.reads I hs kvs _ _ _ h2 r2 p3
        obtain ⟨e1, e2⟩ := r1
        rw [← e1] at p1
        obtain ⟨a1, t1, z1⟩ := reads_key (s := s) p1
        obtain ⟨b1, t2, z2⟩ := Rdd.reads I hs d _ _ h1 e2
        rw [← p2] at t2
        subst ek
        refine ⟨a1 ++ as, b1 ++ bs, ReadsAll.cons t1 q1, ReadsAll.cons t2 q2, fun hm => ?_⟩
        rcases List.mem_append.mp hm with hm | hm
        · exact (List.mem_append.mp hm).elim z1 fun y => z (List.mem_append_left _ y)
        · exact (List.mem_append.mp hm).elim z2 fun y => z (List.mem_append_right _ y)
end
end
/-- what repr asks -/
def Shw (d : D) : Prop := d.showable = true ∧ d.depth ≤ 60 ∧ d.shown.length ≤ sizeLine
def gRepr : D → (D → Prop) → Prop
  | .tuple ds, P => Shw (.tuple ds) ∧ P (.str (PyData.shown (.tuple ds)))
  | .list ds, P => Shw (.list ds) ∧ P (.str (PyData.shown (.list ds)))
  | _, _ => False
theorem mo_gRepr : Mo1 gRepr := fun x P P' k h => by cases x <;> first | exact h.elim | exact ⟨h.1, k _ h.2⟩
section
variable {X : Cx} {C : Ct} {e : Expr} {te : TED} {p pos : Pos}
def rRepr (K : PySem.W.Frag) : List V → Hp → VK → Prop := fun xs H Q => ∃ d a S, xs = [.ref a] ∧ Rdd K S H d (.ref a) ∧ Shw d ∧ (∃ o φ, H sysModules = some (.frz o (.ext φ))) ∧ Q (.str d.shown) H
theorem call_reprD (hg : NoGu X.A) (hu : X.A.units + 64 < cLine) : CallR X (.builtin "repr") (rRepr X.K) := by
  intro pins s σ H xs us Q I r h
  obtain ⟨d, a, S, rfl, rd, ⟨h1, h2, h3⟩, hs, q⟩ := h
  obtain ⟨u, rfl, r1⟩ := vals1 r
  obtain ⟨as, rr, z⟩ := Rdd.reads I hs d _ _ rd r1
  cases (show u = Value.ref a from r1)
  exact repr_of_reads' rr h1 (fun _ => z) hg (by omega) (fun _ _ e => e) (fun h' u tk hk => ⟨.str _, H, I.kept (t' := tk) hk, ⟨_, rfl⟩, q⟩) h3
theorem freeze_for {F : Addr → Prop} {O : Fps} {ρ : List Slot} {σ : L2.St} {H : Hp} {ds : List D} {v : V} (R : Rel X.K C F O ρ σ H) (rx : rO X.K F O H H (.list ds) v) : ∃ S, Rdd X.K S H (.list ds) v := by
  obtain ⟨a, vs, e, _, hl, r⟩ := rx
  exact ⟨fun b => F b ∨ b = a, a, vs, e, .inr rfl, hl, RdL.keep (fun b => Or.inl) (fun _ _ z => z) (fun _ _ _ z => z) _ _ r⟩
theorem pd_repr (hgu : NoGu X.A) (hu : X.A.units + 64 < cLine) (hg : Gl X "repr") (hm : X.mg "repr" = none) (he : PO X C e te) (hs : starEach [e] X.env = (false, eval e X.env) :: starEach [] X.env := by rfl) : PD X C (.Call (.Name "repr" p) [e] [] pos) (dUn gRepr te) :=
  pv_b1 (call_reprD hgu hu) (fun {F O ρ σ H x v Q} R rx h => by
    have hsys := R.dk
    obtain ⟨_, _, _, _, _, _, hsys⟩ := hsys
    cases x <;> first | exact h.elim | skip
    · obtain ⟨a, vs, rfl, _, _, _⟩ := id rx
      obtain ⟨S, rd⟩ := freeze_for R rx
      exact ⟨_, a, S, rfl, rd, h.1, hsys, h.2 _ _ _ (Stp.refl _ _ _) R rfl⟩
    · obtain ⟨a, vs, rfl, _, _⟩ := id rx
      exact ⟨_, a, F, rfl, rx, h.1, hsys, h.2 _ _ _ (Stp.refl _ _ _) R rfl⟩) mo_gRepr hg hm (by decide +kernel) he (hs := hs)
end
end DL

namespace DL
open PySem PySem.Spec PyProof.Rows L2

/-! ### dict displays with keys known -/
abbrev TKD := List Slot → (List (Key × D) → Prop) → Prop
def kdD (kds : List (Key × D)) : List (D × D) := kds.map fun p => (kD p.1, p.2)
def KdR (K : PySem.W.Frag) (F : Addr → Prop) (H : Hp) (kds : List (Key × D)) (kvs : List (Key × V)) : Prop := kvs.map (·.1) = kds.map (·.1) ∧ RdK K F H (kdD kds) kvs
def liftK (K : PySem.W.Frag) (C : Ct) (t : TKD) (σ : L2.St) (H : Hp) (Q : List (V × V) → Hp → Prop) : Prop := ∃ F O ρ, Rel K C F O ρ σ H ∧ t ρ fun kds => ∀ kvs H' F', Stp C.q F F' H H' → Rel K C F' O ρ σ H' → KdR K F' H' kds kvs → Q (kvs.map fun kv => (kV kv.1, kv.2)) H'
structure DK (X : Cx) (C : Ct) (pos : Pos) (keys : List (Option Expr)) (values : List Expr) (t : TKD) : Prop where
  mono : ∀ ρ (P P' : List (Key × D) → Prop), (∀ d, P d → P' d) → t ρ P → t ρ P'
  run : ∃ trs, PPs X pos keys values trs ∧ ∀ σ H Q, liftK X.K C t σ H Q → tPairs trs σ H Q
def kNil : TKD := fun _ P => P []
def kCons (k : Key) (te : TED) (t : TKD) : TKD := fun ρ P => te ρ fun d => t ρ fun r => P ((k, d) :: r)
theorem RdK.stpR {K : PySem.W.Frag} {C : Ct} {F F' : Addr → Prop} {O : Fps} {ρ : List Slot} {σ : L2.St} {H H' : Hp} (R : Rel K C F O ρ σ H) (s : Stp C.q F F' H H') {ds : List (D × D)} {vs : List (Key × V)} (h : RdK K F H ds vs) : RdK K F' H' ds vs :=
  RdK.keep (fun a => s.up a) (fun a vs => SqT.kpx R.dk s.kp) (fun a o ha e => s.kp.kp a o e (R.fz a ha).1 (R.fz a ha).2.1 fun ps z => (R.fz a ha).2.2.2 ps (by rw [e, z])) ds vs h
theorem RdK.len {K : PySem.W.Frag} {F : Addr → Prop} {H : Hp} : ∀ {ds : List (D × D)} {vs : List (Key × V)}, RdK K F H ds vs → vs.length = ds.length
  | [], _, h => by rw [show _ = [] from h]; rfl
  | (_, _) :: ds, _, ⟨key, v, r, e, _, _, h2⟩ => by rw [e, List.length_cons, List.length_cons, RdK.len (ds := ds) h2]
section
variable {X : Cx} {C : Ct} {e : Expr} {te : TED} {t : TKD} {pos p : Pos} {ks : List (Option Expr)} {es : List Expr} {j : Nat}
theorem dk_nil : DK X C pos [] [] kNil := ⟨fun _ _ _ k h => k _ h, [], pps_nil, fun σ H Q ⟨F, O, ρ, R, q⟩ => q [] H F (Stp.refl _ _ _) R ⟨rfl, rfl⟩⟩
theorem dk_cons {ke : Expr} (key : Key) (hk : PE X ke (tC (kV key))) (he : PD X C e te) (h : DK X C pos ks es t) : DK X C pos (some ke :: ks) (e :: es) (kCons key te t) := by
  obtain ⟨m, trs, hp, hi⟩ := h
  refine ⟨fun ρ P P' k => he.mono _ _ _ fun d => m _ _ _ fun r => k _, (tC (kV key), lift (rE X.K) X.K C te) :: trs, pps_cons hk he.run hp, fun σ H Q ⟨F, O, ρ, R, q⟩ => ?_⟩
  refine ⟨F, O, ρ, R, he.mono _ _ _ (fun d k v H1 F1 s1 R1 r1 => ?_) q⟩
  refine hi _ _ _ ⟨F1, O, ρ, R1, m _ _ _ (fun kds k2 kvs H2 F2 s2 R2 r2 => ?_) k⟩
  exact k2 ((key, v) :: kvs) H2 F2 (s1.trans s2) R2 ⟨by rw [List.map_cons, List.map_cons, r2.1], key, v, kvs, rfl, rfl, Rdd.stpR R1 s2 r1, r2.2⟩
theorem dk_i {i : Int} (he : PD X C e te) (h : DK X C pos ks es t) : DK X C pos (some (.Constant (.int i) j p) :: ks) (e :: es) (kCons (.inl i) te t) := dk_cons (.inl i) pe_int he h
theorem dk_s {x : Str} (he : PD X C e te) (h : DK X C pos ks es t) : DK X C pos (some (.Constant (.str x) j p) :: ks) (e :: es) (kCons (.inr x) te t) := dk_cons (.inr x) pe_str he h
def dDict (t : TKD) : TED := fun ρ P => t ρ fun kds => (kds.map (·.1)).Nodup ∧ kds.length ≤ 15 ∧ P (.dict (kdD kds))
theorem merge_id : ∀ (more kvs : List (Key × V)), (kvs.map (·.1) ++ more.map (·.1)).Nodup → mergeK kvs more = kvs ++ more := by
  intro more
  induction more with
  | nil => intro kvs _; rw [List.append_nil]; rfl
  | cons p r ih =>
    intro kvs h
    have hp : putK kvs p.1 p.2 = kvs ++ [p] := by
      unfold putK
      rw [if_neg]
      intro z
      obtain ⟨q, hq, e⟩ := List.any_eq_true.mp z
      have e : q.1 = p.1 := by simpa using e
      rw [List.map_cons] at h
      exact (List.nodup_append.mp h).2.2 q.1 (List.mem_map_of_mem hq) p.1 (List.mem_cons_self ..) e
    show mergeK (putK kvs p.1 p.2) r = _
    rw [hp, ih]
    · simp
    · rw [List.map_append, List.append_assoc]
      simpa using h
theorem pd_dict (h : DK X C pos ks es t) (hall : ks.all (·.isSome) = true := by rfl) (hl : ks.length = es.length := by rfl) (h0 : ks ≠ [] := by exact List.cons_ne_nil _ _) (h15 : ks.length ≤ 15 := by decide) : PD X C (.Dict ks es pos) (dDict t) := by
  obtain ⟨m, trs, hp, hi⟩ := h
  refine ⟨fun ρ P P' k => m _ _ _ fun kds h => ⟨h.1, h.2.1, k _ h.2.2⟩, pe_imp (pe_disp hp hall hl h0 h15) fun σ H Q ⟨F, O, ρ, R, q⟩ p hn => ?_⟩
  have R1 : Rel X.K C F O ρ σ (upd H p (.dK [])) := R.new hn
  obtain ⟨n1, n2, n3, n4, n5⟩ := R.np (Nn.of hn)
  refine hi _ _ _ ⟨F, O, ρ, R1, m _ _ _ (fun kds k kvs H2 F2 s2 R2 r2 => ?_) q⟩
  obtain ⟨k1, k2, k3⟩ := k
  have e2 : H2 p = some (.dK []) := s2.kp.kp p _ upd_same n1 n2 (fun ps z => nomatch z)
  have nf : ¬ F2 p := fun z => (s2.nw p z).elim n4 fun n => n.no (o := .dK []) upd_same (fun ps z => nomatch z)
  have hln : kvs.length ≤ 15 := by
    have := congrArg List.length r2.1
    rw [List.length_map, List.length_map] at this
    omega
  refine ⟨e2, kvs, rfl, hln, ?_⟩
  rw [merge_id kvs [] (by rw [List.map_nil, List.nil_append, r2.1]; exact k1), List.nil_append]
  have lo : Loose (.dK []) := .inr ⟨_, rfl⟩
  have R3 : Rel X.K C F2 O ρ σ (upd H2 p (.dK kvs)) := R2.wr e2 lo (.inr ⟨_, rfl⟩) nf n1 n2 n3 n5
  have R4 := R3.freeze n1 n2 n3 (by rw [upd_same]; simp) (by rw [upd_same]; intro ps z; cases z) n5
  have st : Stp C.q F F2 H H2 := (Stp.new hn).trans s2
  have st2 : Stp C.q F F2 H (upd H2 p (.dK kvs)) := ⟨⟨fun b o e h1 h2 h3 => (upd_ne fun (z : b = p) => by rw [z, hn] at e; cases e).trans (st.kp.kp b o e h1 h2 h3), fun b o e h => by
    by_cases z : b = p
    · rw [z, hn] at e; cases e
    · rw [upd_ne z]; exact st.kp.th b o e h⟩, st.up, st.nw⟩
  refine k3 (.ref p) _ _ (Stp.freeze (Nn.of hn) st2) R4 ⟨p, kvs, rfl, .inr rfl, upd_same, ?_⟩
  have lw : FSt F2 F2 H2 (upd H2 p (.dK kvs)) := FSt.wr e2 lo nf
  exact RdK.keep (fun b hb => .inl (lw.up b hb)) (fun _ _ => lw.seq) lw.fk _ _ r2.2
end
/-! ### enumerate of a tuple -/
abbrev enumO (e : Addr) : Obj := { cls := .type "enumerate", data := .fields #[.none, .bool false, .ref e, rawInt 0, .none, .none] }
theorem enumNew1 {v : Value} {o : Obj} {G : Heap → Prop} (B : Begins v o G) :
    Meets (Builtin.«enumerate.__new__» ⟨[.type "enumerate", v], []⟩) (fun _ R s => G s.heap ∧ R (.ok (.ret (.ref (s.heap.push o).objs.size))) { s with heap := (s.heap.push o).push (enumO s.heap.objs.size) }) :=
  .of_wp fun prog w A R s h => by
    obtain ⟨hp, g, d, tk, os⟩ := s
    obtain ⟨h1, h⟩ := h
    have hsub := sub_enumerate
    have it : ∀ {A' : Around} {E : Value → Shared → Prop} {Q : Value → Shared → Prop}, Q (.ref hp.objs.size) ⟨hp.push o, g, d, tk, os⟩ → wpAny (model prog w) A' (pyIter v) Q E ⟨hp, g, d, tk, os⟩ :=
      fun q => B.iter prog w _ _ ⟨hp, g, d, tk, os⟩ _ h1 q
    wp_walk using it
    refine wpAny_stack_any fun st => wpAny_pure ?_
    split
    · rename_i c _ _ _ _ _
      cases (c == Value.type "enumerate") <;> (wp_walk using it; exact ⟨_, rfl, h⟩)
    · wp_walk using it
      exact ⟨_, rfl, h⟩
theorem enumCall1 {prog : Program} {w : World} {A : Around} {E : Value → Shared → Prop} {s : Shared} {v : Value} {o : Obj} {G : Heap → Prop} {Q : Value → Shared → Prop} (B : Begins v o G) (h1 : G s.heap)
    (h : ∀ h', IsEnum h' (s.heap.objs.size + 1) s.heap.objs.size 0 .none → h'.get? s.heap.objs.size = some o → (∀ b o, s.heap.get? b = some o → h'.get? b = some o) → Q (.ref (s.heap.objs.size + 1)) { s with heap := h' }) :
    wpAny (model prog w) A (call (.type "enumerate") [v]) Q E s := by
  refine callType_new F.called_enumerate (by decide) (F.typeCall_enumerate_1 _) (F.newCall_enumerate_1 _) (fun obj => F.args_object_init_2 obj _) F.entry_enumerate_new (enumNew1 B) ⟨h1, ?_⟩
  have hz : (s.heap.push o).objs.size = s.heap.objs.size + 1 := Heap.size_push ..
  show _ ∧ _
  rw [hz]
  have he : IsEnum ((s.heap.push o).push (enumO s.heap.objs.size)) (s.heap.objs.size + 1) s.heap.objs.size 0 .none := by
    have q := Heap.get?_push_size (s.heap.push o) (o := enumO s.heap.objs.size) rfl
    rw [hz] at q
    exact q
  exact ⟨⟨_, he, rfl⟩, h _ he (Heap.get?_push_of_some _ (Heap.get?_push_size _ B.free)) fun b o x => Heap.get?_push_of_some _ (Heap.get?_push_of_some _ x)⟩
/-- the tuple at a, each item in a new pair -/
def IteT (K : PySem.W.Frag) (a : Addr) (n : Nat) : It :=
  ⟨fun i H => ∃ (xs : List V) (x : V), SqT K H a xs ∧ xs.length = n ∧ xs[i]? = some x, fun i H v H' => ∃ T x, v = .ref T ∧ H T = none ∧ H' = upd H T (.tup [.int (i : Nat), x]) ∧ ∀ xs, SqT K H a xs → xs[i]? = some x, fun i H => ∃ xs : List V, SqT K H a xs ∧ xs.length = n ∧ n ≤ i⟩
theorem turn_enumT {P : Program} {w : World} {K : PySem.W.Frag} {elts : List Expr} {kk : Nat} {tpos : Pos} (a e it : Addr) (n : Nat) :
    Turn P w K (.Tuple elts kk tpos) (IteT K a n) [e, it] e (fun i h => (∃ old, IsEnum h e it ((i : Nat) : Int) old) ∧ h.IsTupleIter it a i ∧ e ≠ it ∧ a ≠ it ∧ a ≠ e ∧ i ≤ n) where
  mem := by simp
  obj := fun i h st b hb => by
    obtain ⟨⟨old, he⟩, ⟨o, ho, hc, hd⟩, _⟩ := st
    have e' : b = e ∨ b = it := by simpa using hb
    rcases e' with z | z
    · rw [z]; exact ⟨_, he, fun v q => nomatch q⟩
    · rw [z]; exact ⟨o, ho, fun v q => by rw [hd] at q; cases q⟩
  keep := fun i h h' st k => let ⟨⟨old, he⟩, hi, hne⟩ := st; ⟨⟨old, k e (by simp) _ he⟩, hi.at fun o q => k it (by simp) o q, hne⟩
  item := by
    intro X hP hw hK hc i pins s σ H E I hf st hg
    subst hP hw hK
    obtain ⟨⟨old, he⟩, hit, hne, hai, hae, hin⟩ := st
    obtain ⟨xs, x, hq, hxl, hx⟩ := hg
    obtain ⟨its, rv, p, hz⟩ := I.tuple hq
    obtain ⟨u, hu, ru⟩ := rv.get hx
    have hel : e < s.heap.objs.size := Heap.lt_size he
    have hil : it < s.heap.objs.size := by obtain ⟨_, q, _⟩ := hit; exact Heap.lt_size q
    have hlt : i < its.toArray.size := by
      have := (List.getElem?_eq_some_iff.mp hu).1
      simpa using this
    refine wpAny_pyNext_enum_itemC (Draws.tuple (A := X.A.in1) (show X.A.in1.handled = none from I.ok.hd hc) it a hai its.toArray) he ⟨hit, show s.heap.IsTuple a its.toArray from p⟩ hlt hne (by simp; exact ⟨hne, Ne.symm hae⟩) fun y h' tk hy ho hst' hT hsz hk => ?_
    have hyu : y = u := by
      have : its.toArray[i]? = some u := by simpa using hu
      rw [this] at hy; exact (Option.some.inj hy).symm
    subst hyu
    refine ⟨_, rfl, wpAny_letOwnedTupleGo_enum (s := { s with heap := h', toks := tk + 1 }) ho fun h'' he' sb => ?_⟩
    have hT2 : h''.get? s.heap.objs.size = some { cls := .type "tuple", data := .seq #[.int i tk, y] } := (sb.2 _ (Nat.ne_of_gt hel)).trans hT
    have new : ObjOk X.prog X.w (upd H s.heap.objs.size (.tup [.int (i : Nat), x])) h'' s.heap.objs.size (.tup [.int (i : Nat), x]) :=
      ⟨by show 2 ≤ sizeLine; decide, [.int i tk, y], .cons ⟨_, rfl⟩ (.cons ru .nil), ⟨_, hT2, rfl, _, rfl⟩⟩
    have I1 : Inv X pins σ (upd H s.heap.objs.size (.tup [.int (i : Nat), x])) { s with heap := h'', toks := tk + 1 } :=
      I.turnedNew (ch := [e, it]) (fun b ob hb q => (sb.2 b (fun z => hb (by simp [z]))).trans (hk b ob (fun z => hb (by simp [z])) (fun z => hb (by simp [z])) q)) hf (Nat.le_refl _) new
    refine ⟨.ref s.heap.objs.size, _, I1, rfl, ⟨_, x, rfl, I.hok.fresh (Nat.le_refl _), rfl, fun ys hy => by rw [I.tuple_inj hy hq]; exact hx⟩, ⟨⟨y, ?_⟩, hst'.1.at fun o q => (sb.2 it (Ne.symm hne)).trans q, hne, hai, hae, by rw [← hxl, rv.length]; exact Nat.succ_le_of_lt (by simpa using hlt)⟩, fun b hb => ?_⟩
    · have e1 : ((i + 1 : Nat) : Int) = (i : Int) + 1 := by omega
      rw [e1]; exact he'
    · have hb' : b < s.heap.objs.size := by
        have e' : b = e ∨ b = it := by simpa using hb
        rcases e' with z | z
        · rw [z]; exact hel
        · rw [z]; exact hil
      rw [upd_ne (Nat.ne_of_lt hb')]
      exact (hf b hb).1
  done := by
    intro X hP hw hK hc i pins s σ H E I hf st hg
    subst hP hw hK
    obtain ⟨⟨old, he⟩, hit, hne, hai, hae, hin⟩ := st
    obtain ⟨xs, hq, hxl, hx⟩ := hg
    obtain ⟨its, rv, p, hz⟩ := I.tuple hq
    obtain ⟨f0, f1, f2, f3, f4, f5⟩ := hf it (by simp)
    have hl := rv.length
    have hin2 : i = its.toArray.size := by rw [List.size_toArray]; omega
    have st2 : s.heap.IsTupleIter it a its.toArray.size ∧ s.heap.IsTuple a its.toArray := ⟨hin2 ▸ hit, p⟩
    exact wpAny_pyNext_enum_endD (Draws.tuple (A := X.A.in1) (show X.A.in1.handled = none from I.ok.hd hc) it a hai its.toArray) he st2 fun h' eb => ⟨rfl, I.turned (t' := s.toks) (fun b o hb q => eb b o hb q) f0 f1 f3 f4 f5⟩
  self := fun A i s Q E st h => let ⟨⟨_, he⟩, _⟩ := st; wpAny_pyIter_enum he h
def iEnumTu (K : PySem.W.Frag) (ta : TA) : TI := fun σ H R => ta σ H fun vs H1 => ∃ a xs, vs = [.ref a] ∧ SqT K H1 a xs ∧ R (IteT K a xs.length) H1
theorem pi_enumT {X : Cx} {e : Expr} {ta : TA} {p pos tpos : Pos} {elts : List Expr} {kk : Nat} (hg : Gl X "enumerate") (hm : X.mg "enumerate" = none) (ha : PA X [e] ta) (hs : starEach [e] X.env = [(false, eval e X.env)] := by rfl) :
    PI X (.Tuple elts kk tpos) (.Call (.Name "enumerate" p) [e] [] pos) (iEnumTu X.K ta) := by
  refine ⟨fun pins s σ H R I h => ?_⟩
  refine Call_ (ld_blt I hg hm boot_enumerate (PyProof.Rows.callWith_type1 (thn (ha.run pos pins s σ H _ I h) fun us s1 ⟨vs, H1, I1, r1, q1⟩ => ?_) hs rfl))
  obtain ⟨a, xs, rfl, hq, q⟩ := q1
  obtain ⟨u, rfl, r⟩ := vals1 r1
  cases (show u = Value.ref a from r)
  obtain ⟨its, rv, p', hz⟩ := I1.tuple hq
  refine enumCall1 (begins_tuple a its.toArray) (show s1.heap.IsTuple a its.toArray from p') fun h' he hit hk => wpAny_pyIter_enum he ?_
  have I2 : Inv X pins σ H1 { s1 with heap := h' } := I1.kept (t' := s1.toks) hk
  have la : a < s1.heap.objs.size := p'.lt
  refine ⟨s1.heap.objs.size + 1, [s1.heap.objs.size + 1, s1.heap.objs.size], _, _, H1, rfl, I2, turn_enumT a (s1.heap.objs.size + 1) s1.heap.objs.size xs.length, ⟨⟨.none, he⟩, ⟨_, hit, rfl, rfl⟩, Nat.succ_ne_self _, Nat.ne_of_lt la, Nat.ne_of_lt (Nat.lt_succ_of_lt la), Nat.zero_le _⟩, fun b hb => ?_, q⟩
  have hle : s1.heap.objs.size ≤ b := by
    have e' : b = s1.heap.objs.size + 1 ∨ b = s1.heap.objs.size := by simpa using hb
    rcases e' with z | z
    · rw [z]; exact Nat.le_succ _
    · rw [z]; exact Nat.le_refl _
  exact I1.fpOk hle (I1.hok.fresh hle)
section
variable {X : Cx} {C : Ct} {e : Expr} {te : TED} {p pos tpos : Pos} {elts : List Expr} {kk : Nat}
theorem feed_enumT {K : PySem.W.Frag} {F : Addr → Prop} {H : Hp} {ds : List D} {vs : List V} {a : Addr} (hl : SqT K H a vs) (r : RdL K F H ds vs) : Feed K C (IteT K a vs.length) (enumD ds) F H := by
  refine ⟨fun i hi F' O ρ σ H' s R => ?_, fun i hi F' O ρ σ H' s R => ?_, fun i d e F' O ρ σ H' s R x H'' y => ?_⟩
  · rw [enumD_len] at hi
    have : i < vs.length := by rw [r.len]; exact hi
    exact ⟨vs, vs[i], s.seq hl, rfl, List.getElem?_eq_getElem this⟩
  · rw [enumD_len] at hi
    exact ⟨vs, s.seq hl, rfl, by rw [r.len]; exact hi⟩
  · obtain ⟨T, x', rfl, n, rfl, y⟩ := y
    obtain ⟨x, ex, rfl⟩ := enumD_get e
    have z := y vs (s.seq hl)
    obtain ⟨u, hu, hr⟩ := r.get ex
    rw [hu] at z; cases z
    exact new_tup (ds := [.int (i : Nat), x]) (vs := [.int (i : Nat), x']) R ⟨_, _, rfl, rfl, _, _, rfl, hr.fst s, rfl⟩ n
def iEnumT (te : TED) : TID := fun ρ P => te ρ fun d => match d with
  | .tuple ds => P (enumD ds)
  | _ => False
theorem di_enumT (hg : Gl X "enumerate") (hm : X.mg "enumerate" = none) (h : PD X C e te) (hs : starEach [e] X.env = [(false, eval e X.env)] := by rfl) : DI X C (.Tuple elts kk tpos) (.Call (.Name "enumerate" p) [e] [] pos) (iEnumT te) :=
  ⟨fun ρ P P' k => h.mono _ _ _ fun d h => by cases d <;> first | exact h.elim | exact k _ h, pi_imp (pi_enumT hg hm (pa_cons h.run pa_nil (by exact hs)) hs) fun σ H Q ⟨F, O, ρ, R, q⟩ => ⟨F, O, ρ, R, h.mono _ _ _ (fun d k v H' F' s R' r => by
    cases d <;> first | exact k.elim | skip
    obtain ⟨a, vs, e, hl, r⟩ := r
    exact ⟨a, vs, by rw [e], hl, k _ H' F' s R' (feed_enumT hl r)⟩) q⟩⟩
end
end DL

namespace DL
open PySem PySem.Spec PyProof.Rows L2

/-! ### defs that keep their promise, called by name -/
structure Cal (G : Around → Prop) (P : Program) (w : World) (K : PySem.W.Frag) (mg : Str → Option Value) (base : Heap) (k : Nat) (x : Str) (ps : List Str) (wd : Wd) (Fd : FD) : Prop where
  ex : ∃ f fd, FnR G P w K mg base (L2.CX P w) k f fd ps (spD K wd Fd) ∧ mg x = some (.ref f) ∧ PySem.W.keepIn K (.ref f) = true ∧ Binds K fd ps []
theorem Cal.mono {G G' : Around → Prop} {P : Program} {w : World} {K : PySem.W.Frag} {mg : Str → Option Value} {base : Heap} {k j : Nat} {x : Str} {ps : List Str} {wd : Wd} {Fd : FD} (c : Cal G P w K mg base j x ps wd Fd) (h : j ≤ k) (g : ∀ A, G' A → G A) : Cal G' P w K mg base k x ps wd Fd := by
  obtain ⟨f, fd, F, h1, h2, h3⟩ := c.ex
  exact ⟨f, fd, F.mono h g, h1, h2, h3⟩
def pick {α : Type} (is : List Nat) (l : List α) : List α := is.filterMap (l[·]?)
theorem pick_vals {zs : List V} {ws : List Value} (r : Vals zs ws) : ∀ is : List Nat, Vals (pick is zs) (pick is ws)
  | [] => .nil
  | i :: is => by
    have ih := pick_vals r is
    unfold pick at ih ⊢
    rw [List.filterMap_cons, List.filterMap_cons]
    cases e : zs[i]? with
    | none =>
      have hl := r.length
      have : ws[i]? = none := by
        rw [List.getElem?_eq_none_iff] at e ⊢
        omega
      rw [this]
      exact ih
    | some v =>
      obtain ⟨u, hu, ru⟩ := r.get e
      rw [hu]
      exact .cons ru ih
theorem pick_rd {K : PySem.W.Frag} {q : Dq} {F : Addr → Prop} {H : Hp} {ds : List D} {vs : List V} (r : RdL K F H ds vs) : ∀ is : List Nat, ArgsR K q F H ((pick is ds).map .dat) (pick is vs)
  | [] => rfl
  | i :: is => by
    have ih := pick_rd (q := q) r is
    unfold pick at ih ⊢
    rw [List.filterMap_cons, List.filterMap_cons]
    cases e : ds[i]? with
    | none =>
      have hl := r.len
      have : vs[i]? = none := by
        rw [List.getElem?_eq_none_iff] at e ⊢
        omega
      rw [this]
      exact ih
    | some d =>
      obtain ⟨u, hu, ru⟩ := r.get e
      rw [hu]
      exact ⟨u, _, rfl, ru, ih⟩
structure CalK (G : Around → Prop) (P : Program) (w : World) (K : PySem.W.Frag) (mg : Str → Option Value) (base : Heap) (k : Nat) (x : Str) (ps ks : List Str) (is : List Nat) (wd : Wd) (Fd : FD) : Prop where
  ex : ∃ f fd, FnR G P w K mg base (L2.CX P w) k f fd ps (spD K wd Fd) ∧ mg x = some (.ref f) ∧ PySem.W.keepIn K (.ref f) = true ∧ ∀ (s : Shared) (ws : List Value), ws.length = ks.length → BindsTo s fd ⟨[], ks.zip ws⟩ (ps.zip (pick is ws))
abbrev DKW := DS
structure DQ (X : Cx) (C : Ct) (kws : List Keyword) (t : TLD) : Prop where
  mono : ∀ ρ (P P' : List D → Prop), (∀ d, P d → P' d) → t ρ P → t ρ P'
  run : PK X kws (liftL X.K C t)
  len : ∀ ρ P, t ρ P → t ρ fun ds => ds.length = kws.length ∧ P ds
theorem pk_imp {X : Cx} {es : List Keyword} {t t' : TA} (h : PK X es t) (i : ∀ σ H Q, t' σ H Q → t σ H Q) : PK X es t' := ⟨fun pos pins s σ H Q I q => h.run pos pins s σ H Q I (i σ H Q q)⟩
def tCallK (Fd : FD) (px : XP) (is : List Nat) (t : TLD) : TED := fun ρ P => t ρ fun ds => Fd.run ((pick is ds).map .dat) P px
section
variable {G : Around → Prop} {X : Cx} {C : Ct} {k : Nat} {ps ks : List Str} {is : List Nat} {Fd : FD} {E : XK} {x nm : Str} {p pos kpos : Pos} {e : Expr} {es : List Expr} {t : TAD} {tl : TLD} {te : TED} {px : XP} {kws : List Keyword} {on : Option Str}
theorem pd_call (c : Cal G X.prog X.w X.K X.mg X.base k x ps C.q.w Fd) (hr : Room k X.A) (hG : G X.A) (hx : XO X C px (L2.CX X.prog X.w) E) (hg : Gl X x) (ha : DA X C (e :: es) t)
    (hdb : (x == ("__debug__" : Str)) = false := by decide) (he : starEach (e :: es) X.env = (false, eval e X.env) :: starEach es X.env := by rfl) (hpl : (backTo pos (starEach es X.env)).any (·.1) = false := by rfl) : PD X C (.Call (.Name x p) (e :: es) [] pos) (tCallD Fd px t) := by
  obtain ⟨f, fd, F, hm, hk, hb⟩ := c.ex
  exact pv_call F hr hG hg hm hk hb hx ha hdb he hpl
theorem dq_nil : DQ X C [] lNil := ⟨fun _ _ _ k h => k _ h, pk_imp pk_nil fun σ H Q ⟨F, O, ρ, R, q⟩ => q [] H F (Stp.refl _ _ _) R rfl, fun ρ P h => ⟨rfl, h⟩⟩
theorem dq_cons (h : PD X C e te) (ha : DQ X C kws tl) : DQ X C (⟨on, e, kpos⟩ :: kws) (lCons te tl) :=
  ⟨fun ρ P P' k => h.mono _ _ _ fun d => ha.mono _ _ _ fun as => k _, pk_imp (pk_cons h.run ha.run) fun σ H Q ⟨F, O, ρ, R, q⟩ =>
    ⟨F, O, ρ, R, h.mono _ _ _ (fun d k v H1 F1 s1 R1 r1 => ⟨F1, O, ρ, R1, ha.mono _ _ _ (fun as k2 vs H2 F2 s2 R2 r2 => k2 _ H2 F2 (s1.trans s2) R2 ⟨v, vs, rfl, Rdd.stpR R1 s2 r1, r2⟩) k⟩) q⟩, fun ρ P => h.mono _ _ _ fun d h2 => ha.mono _ _ _ (fun ds ⟨l, z⟩ => ⟨by rw [List.length_cons, List.length_cons, l], z⟩) (ha.len _ _ h2)⟩
theorem pd_callK (c : CalK G X.prog X.w X.K X.mg X.base k x ps ks is C.q.w Fd) (hr : Room k X.A) (hG : G X.A) (hx : XO X C px (L2.CX X.prog X.w) E) (hg : Gl X x) (ha : DQ X C kws tl) (hlen : kws.length = ks.length := by rfl)
    (hall : (backToKw pos (keywordEach kws X.env)).all (·.1.isSome) = true := by rfl) (hks : (backToKw pos (keywordEach kws X.env)).filterMap (·.1) = ks := by rfl) (hdb : (x == ("__debug__" : Str)) = false := by decide)
    (hpl : ((backTo pos (starEach [] X.env)).any (·.1) || (backToKw pos (keywordEach kws X.env)).any (·.1.isNone)) = false := by rfl) : PD X C (.Call (.Name x p) [] kws pos) (tCallK Fd px is tl) := by
  obtain ⟨f, fd, F, hm, hk, hb⟩ := c.ex
  refine ⟨fun ρ P P' k => ha.mono _ _ _ fun ds => Fd.mono _ _ _ _ _ k fun _ _ _ z => z, ⟨fun pins s σ H Q I h => ?_⟩⟩
  obtain ⟨F0, O, ρ, R, q⟩ := h
  refine wpAny_Call_Name_kw (ld_glob I hg hm ?_ hdb)
  refine PySem.W.callWith_KW0 (h₀ := X.base) I.ok.mod.kin hk hall ?_ hpl
  have q2 := ha.len _ _ q
  refine thn (ha.run.run pos pins s σ H (fun zs H1 => zs.length = ks.length ∧ spD X.K C.q.w Fd (pick is zs) H1 Q E) I ⟨F0, O, ρ, R, ha.mono _ _ _ (fun ds ⟨kl, k2⟩ vs H1 F1 s1 R1 r1 => ⟨by rw [r1.len, kl, hlen], spD_of hx R1 (pick_rd r1 is) k2 fun d kd v H2 F2 s2 R2 r2 => kd v H2 F2 (s1.trans s2) R2 r2⟩) q2⟩) fun ws s2 ⟨zs, H2, I2, rz, l2, q3⟩ => ⟨I2.kIn, ?_⟩
  · rw [hks]
    refine wpAny_call (codeAny_mono (F.run X.A X.stack s2 H2 ⟨[], ks.zip ws⟩ (pick is ws) (pick is zs) Q E hr hG I2.env0 (hb s2 ws (rz.length.symm.trans l2)) (pick_vals rz is) q3) fun r s' hq => ?_)
    cases r with
    | error e => exact hx.pass pins σ H2 s2 e s' I2 hq
    | ok fl =>
      cases fl with
      | ret u => exact I2.after hq
      | next => exact False.elim hq
      | brk => exact False.elim hq
      | cont => exact False.elim hq
end
end DL

namespace DL
open PySem PySem.Spec PyProof.Rows L2
open Builtin Builtin.ObjectAttr

/-! ### an own exception class over Exception: __init__(self, p): self.f = p -/
abbrev exTail : List Value := [.type "Exception", .type "BaseException", .type "object"]
theorem tail_pass (self : Value) : ∀ rs : List Addr, refuseLoop self "__setattr__" (rs.map Value.ref ++ exTail) = pure ()
  | [] => F.store_Exception.passes self
  | C :: rs => by
    rw [List.map_cons, List.cons_append, refuseLoop_ref]
    exact tail_pass self rs
theorem tail_has (T : String) : ∀ rs : List Addr, (rs.map Value.ref ++ exTail).contains (.type T) = exTail.contains (.type T)
  | [] => rfl
  | C :: rs => by
    rw [List.map_cons, List.cons_append, List.contains_cons, tail_has T rs]
    rfl
theorem tail_ne (rs : List Addr) : (rs.map Value.ref ++ exTail).isEmpty = false := by cases rs <;> rfl
/-- what the written part says of the class at C -/
structure XcC (K : PySem.W.Frag) (C : Addr) : Prop where
  cls : ∃ nm q N bs, ∃ rs : List Addr, ∃ sn sub ab col dd k0 k1 k2 k3 k5, K.lookup C = some (excClassObj nm q C N bs (rs.map Value.ref ++ exTail) true sn sub ab col dd k0 k1 k2 k3 k5 "Exception.__new__")
  sa : PySem.W.findIn K (.ref C) "__setattr__" = some (some (.builtin "object.__setattr__"))
  exC : PySem.W.subIn K (.ref C) (.type "BaseException") = some true
  tyC : PySem.W.typeIn K (.ref C) = some (.type "type")
  kC : PySem.W.keepIn K (.ref C) = true
section
variable {prog : Program} {w : World} {A : Around} {R : Result → Shared → Prop} {hp : Heap} {g : Array GenState} {d : Drawn} {t : Nat} {os : OsState} {K : PySem.W.Frag}
theorem xc_store {name : Str} {tk : Tok} {v : Value} {x C : Addr} {fv : Array Value} {cd : ClassData} {rs : List Addr} (X : K.In hp) (hx : hp.get? x = some { cls := .ref C, data := .fields fv }) (hcd : PySem.W.clsIn K C = some cd) (hm : cd.mro = rs.map Value.ref ++ exTail) (hh : cd.hasDict = true)
    (ha : PySem.W.findIn K (.ref C) name = some none)
    (hq : ∀ h' tk' dx, (∀ b o, b ≠ x → hp.get? b = some o → h'.get? b = some o) → hp.objs.size ≤ dx → dx ≠ x → h'.get? x = some { cls := .ref C, dict := some dx, data := .fields fv } →
      h'.Ns1 dx (fun y => if y = name then some v else none) → R (.ok (.ret .none)) ⟨h', g, d, tk', os⟩) :
    codeAny (model prog w) A (.call (.builtin "object.__setattr__") ⟨[.ref x, .str name tk, v], []⟩) R ⟨hp, g, d, t, os⟩ := by
  have I : PySem.W.InstAt hp x { cls := .ref C, data := .fields fv } C none := ⟨hx, rfl, rfl, trivial⟩
  have SF := F.store_object
  have ne : cd.mro.isEmpty = false := by rw [hm]; exact tail_ne rs
  have hob : cd.mro.contains (.type "object") = true := by rw [hm, tail_has]; decide +kernel
  have hxs : x ≠ hp.objs.size := Nat.ne_of_lt (Heap.lt_size hx)
  have sub : PySem.W.Looks (model prog w) hp (isInstance (.ref x) (.type "object")) true := I.type.andThen (PySem.W.looks_mroIn X (by unfold PySem.W.mroIn; rw [hcd, Option.bind_some, if_neg (by rw [ne]; decide), hob]))
  refine codeAny_call_builtin SF.slot.plain SF.entry (@PySem.W.check_slot (model prog w) _ _ ⟨hp, g, d, t, os⟩ "object.__setattr__" "object" "__setattr__" (.ref x) [.str name tk, v] [] _ SF.kind SF.split sub (SF.args (.ref x) (.str name tk) v) ?_)
  have hmr : PySem.W.Looks (model prog w) hp (mroOf (.ref C)) cd.mro := (PySem.W.looks_clsIn X hcd).andThen .now
  have L3 : PySem.W.Looks (model prog w) hp (storeTaker? none) none := .now
  have hcls : PySem.W.Looks (model prog w) hp (classData C) cd := PySem.W.looks_clsIn X hcd
  rw [PySem.W.osa_eq, refuse_eq]
  refine wpAny_bind (wpAny_bind (I.type.at (wpAny_bind (hmr.at ?_))))
  rw [hm, tail_pass]
  refine wpAny_pure (wpAny_bind (I.type.at (wpAny_bind ((PySem.W.looks_findIn X ha).at (wpAny_bind (L3.at ?_))))))
  show wpAny _ _ (storeInOwnDict (.ref x) (.ref C) (.str name tk) name v false) _ _ _
  obtain ⟨nm, bs, mro, ns, qn, hd, sn, sb, ab, col, del⟩ := cd
  dsimp only at hh
  subst hh
  unfold storeInOwnDict ownDictForStores
  repeat (first | with_reducible refine PySem.HandSPX.store_in_new ?_ ?_ | with_reducible refine wpAny_loadPart_at hx ?_ | with_reducible refine hcls.at ?_ | wp_step)
  · exact ⟨_, #[], _, (Heap.get?_update_ne _ _ _ _ hxs.symm).trans (Heap.get?_push_at rfl rfl), rfl, fun e he => absurd he (by simp), fun _ => rfl⟩
  · intro h' tk' hn' hs
    have hx₁ : (hp.push { cls := .type "dict", data := .dict #[] }).get? x = some { cls := .ref C, data := .fields fv } := Heap.get?_push_of_some _ hx
    refine hq h' tk' hp.objs.size (fun b o hb ho => ?_) (Nat.le_refl _) hxs.symm ?_ hn'
    · exact (hs.2 b (Nat.ne_of_lt (Heap.lt_size ho))).trans ((Heap.get?_update_ne _ _ _ _ hb).trans (Heap.get?_push_of_some _ ho))
    · exact (hs.2 x hxs).trans (Heap.get?_update_self _ hx₁ rfl)
end
section
variable {X : Cx} {pins : List (Addr × Obj)} {σ : L2.St} {H : Hp} {s : Shared} {a C dx : Addr} {f : Str} {y : V} {u : Value} {Q : Unit → Shared → Prop} {E : Value → Shared → Prop} {A : Around}
theorem xc_set (T : XcC X.K C) (I : Inv X pins σ H s) (e : H a = some (exo a C none)) (hno : PySem.W.findIn X.K (.ref C) f = some none) (ry : RelV y u)
    (h : ∀ dx s', H dx = none → dx ≠ a → Inv X pins σ (upd (upd H dx (exd dx [(f, y)])) a (exo a C (some dx))) s' → Q () s') : wpAny (model X.prog X.w) A (setAttr (.ref a) f u) Q E s := by
  obtain ⟨nm, q, N, bs, rs, sn, sub, ab, col, dd, k0, k1, k2, k3, k5, hC⟩ := T.cls
  have hcl : PySem.W.clsIn X.K C = some { name := nm, bases := bs, mro := .ref C :: (rs.map Value.ref ++ exTail), ns := N, qualname := q, hasDict := true, slotNames := sn, subclasses := sub, abstract := ab, collection := col, hasDel := false } := by unfold PySem.W.clsIn; rw [hC] <;> rfl
  obtain ⟨t1, ho⟩ := exo_at I.hok e
  obtain ⟨hp, g, d, t, os⟩ := s
  refine PySem.W.set_plain I.kIn (ox := { cls := .ref C, dict := none, data := .fields #[.ref t1, .none, .none, .none, .bool false, .none] }) (od := none) ⟨ho, rfl, rfl, trivial⟩ T.sa ?_
  refine xc_store I.kIn ho hcl (rs := C :: rs) rfl rfl hno fun h' tk' dx k dn dne hx hn => ?_
  have hnd : H dx = none := I.hok.fresh dn
  have nd : ∀ {b : Addr} {o : Obj}, hp.get? b = some o → b ≠ dx := fun {b o} q => Nat.ne_of_lt (Nat.lt_of_lt_of_le (Heap.lt_size q) dn)
  have na : ∀ {b : Addr}, H b = none → b ≠ a := fun {b} n z => by
    rw [z, e] at n
    cases n
  have Un1 : Un X.fs [] H (upd (upd H dx (exd dx [(f, y)])) a (exo a C (some dx))) hp h' := {
    keep := fun b o q n _ _ => k b o (na n) q
    slot := fun b o q n _ _ => ⟨o.slots, k b o (na n) q⟩
    free := fun b o q n _ => by rw [upd_ne (na n), upd_ne (nd q)]; exact n
    there := fun b o q _ => by
      by_cases hb : b = a
      · exact ⟨_, by rw [hb]; exact hx⟩
      · exact ⟨o, k b o hb q⟩
    tups := fun b xs q => by rw [upd_ne (at_ne e q exo_tup), upd_ne (ne_of_none q hnd)]; exact q
    frzs := fun b o v q => by rw [upd_ne (at_ne e q exo_frz), upd_ne (ne_of_none q hnd)]; exact q
    tbls := fun b ps q => ⟨#[], by rw [upd_ne (at_ne e q exo_tbl), upd_ne (ne_of_none q hnd), q]; simp⟩ }
  refine h dx _ hnd dne (I.un (t' := tk') Un1 fun b o q => ?_)
  by_cases hb : b = a
  · subst hb
    rw [upd_same] at q
    cases q
    exact exo_ok hx
  · rw [upd_ne hb] at q
    by_cases hd : b = dx
    · subst hd
      rw [upd_same] at q
      cases q
      exact exd_ok hn (relO_put (fs := []) ry fun g => True.intro)
    · rw [upd_ne hd] at q
      exact (I.hok b o q).stay (fun c v hc z => k c v (by
          rcases hc with hc | hc
          · rw [hc]
            exact hb
          · exact at_ne e hc exo_own) z)
        (fun c hc => by rw [upd_ne (at_ne e hc exo_own), upd_ne (ne_of_none hc hnd)]; exact hc) (fun c xs hc => by rw [upd_ne (at_ne e hc exo_tup), upd_ne (ne_of_none hc hnd)]; exact hc)
end
/-- self.f = e in the __init__ of such a class -/
def tXst (K : PySem.W.Frag) (f : Str) (to te : TE) : TS := fun D σ H => te σ H fun y H1 => to σ H1 fun x H2 => ∃ a C : Addr, x = .ref a ∧ XcC K C ∧ PySem.W.findIn K (.ref C) f = some none ∧
  H2 a = some (exo a C none) ∧ ∀ dx, H2 dx = none → dx ≠ a → D.nx σ (upd (upd H2 dx (exd dx [(f, y)])) a (exo a C (some dx)))
section
variable {X : Cx} {o e : Expr} {to te : TE} {f : Str} {p p' pos : Pos}
theorem ps_xst (ho : PE X o to) (he : PE X e te) (hs : swapsWith e (some (.Attribute o f p')) pos.line X.env = pure false := by rfl) : PS X (.Assign [.Attribute o f p'] e pos) (tXst X.K f to te) := by
  refine ⟨fun pins s σ H D I h => ?_⟩
  refine plainObj_wpAny_Assign_Attribute (thn (he.run pins s σ H _ I h) fun v s1 ⟨y, H1, I1, r1, q1⟩ => thn (ho.run pins s1 σ H1 _ I1 q1) fun u s2 ⟨x, H2, I2, r2, a, C, ex, T, hno, ea, q⟩ => ?_) hs
  subst ex
  cases (show u = Value.ref a from r2)
  exact xc_set T I2 ea hno r1 fun dx s' n ne J => ⟨σ, _, J, q dx n ne⟩
end
def spXc (K : PySem.W.Frag) (f : Str) : Sp := fun vs H Q _ => ∃ (a C : Addr) (y : V), vs = [.ref a, y] ∧ XcC K C ∧ PySem.W.findIn K (.ref C) f = some none ∧ H a = some (exo a C none) ∧
  ∀ dx, H dx = none → dx ≠ a → Q .non (upd (upd H dx (exd dx [(f, y)])) a (exo a C (some dx)))
theorem xc_init {P : Program} {w : World} {K : PySem.W.Frag} {mg : Str → Option Value} {base : Heap} {qual self q f : Str} {st : Stmt} {fI : Addr} {fd : FuncData} {p1 p2 p3 p4 : Pos} (F : L2.Fun K "__init__" qual st fI fd) (S : FnScope [self, q] [self, q] (defScope st))
    (hb : defBody st = [.Assign [.Attribute (.Name self p1) f p2] (.Name q p3) p4]) (v0 : Vis (defScope st) self) (v1 : Vis (defScope st) q) (d0 : (self == ("__debug__" : Str)) = false) (d1 : (self == ("__classdict__" : Str)) = false) (d2 : (q == ("__debug__" : Str)) = false) (d3 : (q == ("__classdict__" : Str)) = false)
    (hs : ∀ env : Env, swapsWith (.Name q p3) (some (.Attribute (.Name self p1) f p2)) p4.line env = pure false) :
    FnOk P w K mg base (L2.CX P w) 1 fI fd [self, q] (spXc K f) := by
  refine F.okX S (fun vs H Q E ⟨a, C, y, e, _⟩ => by rw [e]; rfl) fun cdv A outer s H vs Q E hr ⟨a, C, y, e, T, hno, ea, k⟩ => ?_
  subst e
  rw [hb]
  refine ⟨_, pss_one (ps_xst (pe_var (i := 0) rfl v0 d0 d1) (pe_var (i := 1) rfl v1 d2 d3) (hs _)), ?_⟩
  exact ⟨y, rfl, .ref a, rfl, a, C, rfl, T, hno, ea, fun dx n ne => k dx n ne⟩
/-- C(e) -/
def tMkX (C : Addr) (f : Str) (te : TE) : L2.St → Hp → XK → Prop := fun σ H Q => te σ H fun y H1 => ∀ d, H1 d = none → Q (.ref C) (some d) (upd H1 d (.xd [(f, y)]))
theorem pmk_xc {X : Cx} {x f : Str} {C fI : Addr} {k : Nat} {fd : FuncData} {ps : List Str} {e : Expr} {te : TE} {p pos : Pos} (T : XcC X.K C) (hno : PySem.W.findIn X.K (.ref C) f = some none) (iC : PySem.W.findIn X.K (.ref C) "__init__" = some (some (.ref fI))) (tI : PySem.W.typeIn X.K (.ref fI) = some (.type "function"))
    (F1 : FnOk X.prog X.w X.K X.mg X.base (L2.CX X.prog X.w) k fI fd ps (spXc X.K f)) (hr : Room (k + 1) X.A) (hb : Binds X.K fd ps []) (hg : Gl X x) (hm : X.mg x = some (.ref C)) (ha : PE X e te)
    (hdb : (x == ("__debug__" : Str)) = false := by decide) (he : starEach [e] X.env = (false, eval e X.env) :: starEach [] X.env := by rfl) :
    PMk X (.Call (.Name x p) [e] [] pos) (tMkX C f te) := by
  intro pins s σ H Q I h
  obtain ⟨nm, q, N, bs, rs, sn, sub, ab, col, dd, k0, k1, k2, k3, k5, hC⟩ := T.cls
  refine wpAny_Call_Name_kw (ld_glob I hg hm ?_ hdb)
  refine PySem.W.callWith_K (h₀ := X.base) I.ok.mod.kin T.kC (thn ((pa_cons ha pa_nil he).run pos pins s σ H (fun vs H1 => match vs with | [y] => ∀ d, H1 d = none → Q (.ref C) (some d) (upd H1 d (.xd [(f, y)])) | _ => False) I h) fun us s1 ⟨vs, H1, I1, r1, q1⟩ => ⟨I1.kIn, ?_⟩) he (by rfl)
  obtain ⟨y, rfl⟩ : ∃ y, vs = [y] := by
    match vs, q1 with
    | [y], _ => exact ⟨y, rfl⟩
  have q1 : ∀ d, H1 d = none → Q (.ref C) (some d) (upd H1 d (.xd [(f, y)])) := q1
  show wpAny _ _ (call (.ref C) us) _ _ _
  obtain ⟨hp, g, dr, tk, os⟩ := s1
  have hsz : hp.objs.size ≤ hp.objs.size + 1 := Nat.le_succ _
  have hn : H1 (hp.objs.size + 1) = none := I1.hok.fresh hsz
  have kk : ∀ b o, hp.get? b = some o → ((hp.push (PySem.W.kdv_tup us)).push (PySem.HandSPX.excO C hp.objs.size)).get? b = some o := fun b o e => Heap.get?_push_of_some _ (Heap.get?_push_of_some _ e)
  have hget : ((hp.push (PySem.W.kdv_tup us)).push (PySem.HandSPX.excO C hp.objs.size)).get? (hp.objs.size + 1) = some (PySem.HandSPX.excO C hp.objs.size) := by heap_get
  have I2 : Inv X pins σ (upd H1 (hp.objs.size + 1) (exo (hp.objs.size + 1) C none)) ⟨(hp.push (PySem.W.kdv_tup us)).push (PySem.HandSPX.excO C hp.objs.size), g, dr, tk, os⟩ :=
    I1.laid (t' := tk) (a := hp.objs.size + 1) (o := exo (hp.objs.size + 1) C none) (h' := (hp.push (PySem.W.kdv_tup us)).push (PySem.HandSPX.excO C hp.objs.size)) kk hsz (exo_ok hget)
  have r2 : Vals [V.ref (hp.objs.size + 1), y] (Value.ref (hp.objs.size + 1) :: us) := .cons rfl r1
  generalize ha' : hp.objs.size + 1 = a at *
  -- the promise of __init__
  have hsp : spXc X.K f [.ref a, y] (upd H1 a (exo a C none)) (fun v H2 => v = .non ∧ ∃ d, H1 d = none ∧ d ≠ a ∧ H2 = upd (upd (upd H1 a (exo a C none)) d (exd d [(f, y)])) a (exo a C (some d))) (fun _ _ _ => False) :=
    ⟨a, C, y, rfl, T, hno, upd_same, fun dx n ne => ⟨rfl, dx, by rw [upd_ne ne] at n; exact n, ne, rfl⟩⟩
  have hl : (Value.ref a :: us ++ []).length = ps.length := by
    rw [List.append_nil, ← F1.len _ _ _ _ hsp]
    exact r2.length.symm
  have hus : us.length ≤ sizeLine := by
    rw [← r1.length]
    show 1 ≤ sizeLine
    decide
  have hbb := hb _ (Value.ref a :: us) I2.kIn hl
  rw [List.append_nil] at hbb
  have hcall := PySem.HandSPX.call_own (w := X.w) (prog := X.prog) (A := X.A) (g := g) (d := dr) (t := tk) (os := os) (rest := us) F.excBase_Exception (fun Y => tail_has Y rs) (I1.kIn _ _ hC) (PySem.W.looks_findIn I1.kIn iC) (fun self => PySem.W.bind_fn I1.kIn self tI) hus (R := wants (MkP X pins σ Q) X.xe)
  refine wpAny_call (hcall ?_)
  rw [ha']
  refine codeAny_mono (F1.run _ X.stack _ _ ⟨Value.ref a :: us, []⟩ (Value.ref a :: us) _ _ (fun _ _ _ => False) (hr.make C us []) (I2.env0.make C us []) hbb r2 hsp) fun r s' hq' => ?_
  cases r with
  | error er => exact passL (X := X) pins σ _ _ er s' I2 hq'
  | ok fl =>
    cases fl with
    | ret u =>
      obtain ⟨v, H2, os2, bare2, un2, hok2, rv, ev, d, hd1, hda, eH⟩ := hq'
      subst ev
      obtain ⟨h2, g2, d2, t2, os'⟩ := s'
      refine ⟨rv, ?_⟩
      have ea : H2 a = some (exo a C (some d)) := by rw [eH, upd_same]
      have ed : H2 d = some (exd d [(f, y)]) := by rw [eH, upd_ne hda, upd_same]
      have e3 : upd (del H2 a) d (.xd [(f, y)]) = upd H1 d (.xd [(f, y)]) := by
        funext b
        by_cases hb : b = d
        · rw [hb, upd_same, upd_same]
        · rw [upd_ne hb, upd_ne hb]
          by_cases hba : b = a
          · rw [hba, del_same, hn]
          · rw [del_ne hba, eH, upd_ne hba, upd_ne hb, upd_ne hba]
      refine mk_end (raises_own T.exC T.tyC) I1 hsz kk un2 hok2 os2 bare2 ea ed hd1 ?_
      rw [e3]
      exact q1 d hd1
    | next => exact False.elim hq'
    | brk => exact False.elim hq'
    | cont => exact False.elim hq'
/-! ### raise C(e) -/
/-- a class of the module that may be raised by its name -/
structure Rs (P : Program) (w : World) (K : PySem.W.Frag) (mg : Str → Option Value) (base : Heap) (x f : Str) (C : Addr) : Prop where
  T : XcC K C
  no : PySem.W.findIn K (.ref C) f = some none
  mgC : mg x = some (.ref C)
  ini : ∃ fI fd ps, PySem.W.findIn K (.ref C) "__init__" = some (some (.ref fI)) ∧ PySem.W.typeIn K (.ref fI) = some (.type "function") ∧ FnOk P w K mg base (L2.CX P w) 1 fI fd ps (spXc K f) ∧ Binds K fd ps []
def sRaise (px : XP) (C : Addr) (f : Str) (te : TED) : TSD := fun D ρ => te ρ fun d => px C f d
theorem psd_raise {X : Cx} {Ct : Ct} {px : XP} {E : XK} {x f : Str} {C : Addr} {k : Nat} {e : Expr} {te : TED} {p cpos pos : Pos} (hc : X.calm = true) (tk : Takes X (fun cls d _ H => E cls d H)) (r : Rs X.prog X.w X.K X.mg X.base x f C) (hr : Room k X.A) (hk : 2 ≤ k) (hx : XO X Ct px (L2.CX X.prog X.w) E) (hg : Gl X x) (he : PD X Ct e te)
    (hdb : (x == ("__debug__" : Str)) = false := by decide) (hs : starEach [e] X.env = (false, eval e X.env) :: starEach [] X.env := by rfl) : PSD X Ct (.Raise (some (.Call (.Name x p) [e] [] cpos)) none pos) (sRaise px C f te) := by
  obtain ⟨fI, fd, ps, h1, h2, h3, h4⟩ := r.ini
  refine ⟨fun D D' ρ l h => h, ps_imp (ps_raise hc tk (pmk_xc r.T r.no h1 h2 h3 (hr.mono hk) h4 hg r.mgC he.run hdb hs)) fun D σ H ⟨F, O, ρ, R, q⟩ => ?_⟩
  refine ⟨F, O, ρ, R, he.mono _ _ _ (fun d k v H1 F1 s1 R1 r1 dx hn => ?_) q⟩
  exact hx.hpx C f d k dx v F1 O ρ σ _ (R1.new (o := .xd [(f, v)]) hn) upd_same (Rdd.stpR R1 (Stp.new hn) r1)
end DL

namespace DL
open PySem PySem.Spec PyProof.Rows L2

/-! ### told: try: return (s0, deed()) / except c as e: return (s1, e.f) -/
def TTas (K : PySem.W.Frag) (CF : Addr) (f s0 s1 : Str) : (XK → Hp → VK → Prop) → Hp → VK → Prop := fun tl H Q =>
  tl (fun cls d H' => ∃ b, PySem.W.exmOne K cls (.ref CF) = some b ∧ (b = true → cls = .ref CF ∧ ∃ dd fs v, d = some dd ∧ H' dd = some (.xd fs) ∧ fs.lookup f = some v ∧ ∀ p, H' p = none → Q (.ref p) (upd H' p (.tup [.str s1, v]))) ∧ (b = false → False)) H
    (fun v H1 => ([.str s0, v] : List V).length ≤ sizeLine ∧ ∀ p, H1 p = none → Q (.ref p) (upd H1 p (.tup [.str s0, v])))
theorem takes_len {X : Cx} {W : WX} (tk : Takes X W) : Takes X (fun c d σ H => σ.length = X.N.length → W c d σ H) := fun u s' ⟨a, B, sI, pins, σ, H, cls, d, e, I, nb, up, sky, na, os, ag, w⟩ =>
  tk u s' ⟨a, B, sI, pins, σ, H, cls, d, e, I, nb, up, sky, na, os, ag, w I.len⟩
section
variable {X : Cx}
theorem told_as {Ng : List Str} {x a e en f q s0 s1 : Str} {sg : Scope} {g CF : Addr} {cdg : Value} {j1 j2 k1 k2 : Nat} {p1 p2 p3 p4 p5 p6 p7 p8 p9 p10 p11 p12 p13 : Pos} (hge : sg.names.lookup e = some .globalImplicit) (hme : X.mg e = some (.ref CF)) (hde : (e == ("__debug__" : Str)) = false)
    (h0 : ∀ f : Addr, (L2.start Ng [V.ref f])[0]? = some (some (V.ref f))) (hNd : Ng.Nodup) (hN1 : Ng[1]? = some en) (hln : sg.names.lookup en = some .local) (hd1 : (en == ("__debug__" : Str)) = false) (hc1 : (en == ("__classdict__" : Str)) = false)
    (T : XfC X.K CF) (hno : PySem.W.findIn X.K (.ref CF) f = some none)
    (hsE : ∀ env : Env, starEach [.Constant (.str s0) j1 p9, .Call (.Name a p1) [] [] p2] env = (false, eval (.Constant (.str s0) j1 p9) env) :: starEach [.Call (.Name a p1) [] [] p2] env) (hsE2 : ∀ env : Env, starEach [.Call (.Name a p1) [] [] p2] env = (false, eval (.Call (.Name a p1) [] [] p2) env) :: starEach [] env)
    (hsF : ∀ env : Env, starEach [.Constant (.str s1) j2 p10, .Attribute (.Name en p11) f p12] env = (false, eval (.Constant (.str s1) j2 p10) env) :: starEach [.Attribute (.Name en p11) f p12] env) (hsF2 : ∀ env : Env, starEach [.Attribute (.Name en p11) f p12] env = (false, eval (.Attribute (.Name en p11) f p12) env) :: starEach [] env)
    (hb : ∀ (env : Env), attributeBase (.Name en p11) f env (eval (.Name en p11) env) = eval (.Name en p11) env) :
    LamX.GivesTo X Ng x sg g cdg [.Try [.Return (some (.Tuple [.Constant (.str s0) j1 p9, .Call (.Name a p1) [] [] p2] k1 p13)) p3] [.ExceptHandler (some (.Name e p4)) (some en) [.Return (some (.Tuple [.Constant (.str s1) j2 p10, .Attribute (.Name en p11) f p12] k2 p5)) p6] p7] [] [] p8] a q (TTas X.K CF f s0 s1) := by
  intro fa c' s H Q tl act hc h
  have hgl : Gl (cxOf C8.CX0 X.prog X.w X.K X.mg X.base Ng x sg g cdg X.A X.stack s H C8.E0).nox e := hge
  refine ⟨_, pss_one (ps_try_as (X := (cxOf C8.CX0 X.prog X.w X.K X.mg X.base Ng x sg g cdg X.A X.stack s H C8.E0).nox) (c := .ref CF) (i := 1) (n := en)
      (tb := fun W D σ H => ∃ Ech : XK, (∀ cls d σ' H', σ'.length = Ng.length → Ech cls d H' → W cls d σ' H') ∧ σ[0]? = some (some (.ref fa)) ∧ H c' = some (LamX.CodeO c' q) ∧ tl Ech H (fun v H1 => ([.str s0, v] : List V).length ≤ sizeLine ∧ ∀ p, H1 p = none → D.rt (.ref p) (upd H1 p (.tup [.str s0, v]))))
      rfl rfl hNd hN1 hln ⟨hgl, hde, .inl hme⟩ LamX.takes0 (fun W pn xe tk _ => ?_) (fun a oe cls d pn hz hf => pss_one (ps_ret (pe_tup (pa_cons pe_str (pa_cons (pe_xf T hno hz hf (pe_var (i := 1) hN1 (.inl hln) hd1 hc1) (hb _)) pa_nil (hsF2 _)) (hsF _)))))), ?_⟩
  · refine ⟨fun pins s' σ H' D I h' => ?_⟩
    obtain ⟨Ech, hW, h1, h2, h3⟩ := h'
    have hp := act _ pn xe Ech p1 p2 (takes_len tk) fun cls d σ' H' he hl => hW cls d σ' H' hl he
    have hq := pss_one (ps_ret (pos := p3) (pe_tup (x1 := k1) (pos := p13) (pa_cons (pe_str (x := s0) (j := j1) (pos := p9)) (pa_cons hp pa_nil (hsE2 _)) (hsE _))))
    exact hq.run pins s' σ H' D I ⟨h1, h2, h3⟩
  · refine ⟨fun cls d H' => ∃ b, PySem.W.exmOne X.K cls (.ref CF) = some b ∧ (b = true → cls = .ref CF ∧ ∃ dd fs v, d = some dd ∧ H' dd = some (.xd fs) ∧ fs.lookup f = some v ∧ ∀ p, H' p = none → Q (.ref p) (upd H' p (.tup [.str s1, v]))) ∧ (b = false → False), fun cls d σ' H' hlen ⟨b, e1, e2, e3⟩ => ⟨b, e1, fun hb a _ => ?_, fun hb => e3 hb⟩, h0 fa, hc, h⟩
    obtain ⟨rfl, dd, fs, v, ed, ea, l, k⟩ := e2 hb
    refine ⟨.ref a, ?_, rfl, rfl, dd, fs, v, ed, ea, l, (by show 2 ≤ sizeLine; decide), k⟩
    have h2 : 1 < Ng.length := (List.getElem?_eq_some_iff.mp hN1).1
    exact List.getElem?_set_self (by rw [hlen]; exact h2)
end
end DL

namespace DL
open PySem PySem.Spec PyProof.Rows L2

/-! ### told(lambda: body), in data -/
def unown : Slot → Slot
  | .own _ => .un
  | s => s
def tTold (tb : XP → TED) (CF : Addr) (f s0 s1 : Str) : TED := fun ρ P => tb (fun c nm d => c = CF ∧ nm = f ∧ P (.tuple [.str s1, d])) (ρ.map unown) fun d => P (.tuple [.str s0, d])
def XM (tb : XP → TED) : Prop := ∀ px px' : XP, (∀ c n d, px c n d → px' c n d) → ∀ ρ P, tb px ρ P → tb px' ρ P
theorem xm_call {Fd : FD} {C : Ct} {X : Cx} {es : List Expr} {t : TAD} (h : DA X C es t) : XM fun px => tCallD Fd px t := fun px px' k ρ P => h.mono _ _ _ fun as => Fd.mono _ _ _ _ _ (fun _ z => z) k
theorem xm_call' {Fd : FD} {t : TAD} (h : ∀ ρ (P P' : List Arg → Prop), (∀ d, P d → P' d) → t ρ P → t ρ P') : XM fun px => tCallD Fd px t := fun px px' k ρ P => h _ _ _ fun as => Fd.mono _ _ _ _ _ (fun _ z => z) k
theorem xm_callK {Fd : FD} {is : List Nat} {t : TLD} (h : ∀ ρ (P P' : List D → Prop), (∀ d, P d → P' d) → t ρ P → t ρ P') : XM fun px => tCallK Fd px is t := fun px px' k ρ P => h _ _ _ fun as => Fd.mono _ _ _ _ _ (fun _ z => z) k
theorem xm_if {t : TTD} {ta tb : XP → TED} (ht : MonoT t) (ha : XM ta) (hb : XM tb) : XM fun px => tIfD t (ta px) (tb px) := fun px px' k ρ P => ht _ _ _ fun c h => mono_ite h (ha px px' k ρ P) (hb px px' k ρ P)
section
variable {K : PySem.W.Frag} {C : Ct} {F F' : Addr → Prop} {O : Fps} {ρ : List Slot} {σ : L2.St} {H H1 H' : Hp}
/-- a lambda has been made: tables may have grown -/
theorem stp_ext (R : Rel K C F O ρ σ H) (e : LamX.ExtN H H1) : Stp C.q F F H H1 :=
  ⟨⟨fun b o h _ _ n => e b o h n, fun b o h n => ⟨o, e b o h n, n⟩⟩, fun _ h => h, fun _ h => .inl h⟩
theorem rel_ext (R : Rel K C F O ρ σ H) (e : LamX.ExtN H H1) (t : LamX.Tabs C.q.w.T H1) : Rel K C F O ρ σ H1 := by
  refine R.step (stp_ext R e) ?_ t fun a h h' => absurd h h'
  obtain ⟨cells, m, k, h1, h2, h3, ob, φ, h4⟩ := R.dk
  exact ⟨cells, m, k, e _ _ h1 (fun ps z => nomatch z), e _ _ h2 (fun ps z => nomatch z), h3, ob, φ, e _ _ h4 (fun ps z => nomatch z)⟩
/-- the same seen as a new beginning -/
theorem rel_anew (R : Rel K C F O ρ σ H) : Rel K ⟨C.q, H, F⟩ F (fun _ => []) (ρ.map unown) σ H where
  ln := by rw [List.length_map]; exact R.ln
  dk := R.dk
  tb := R.tb
  fz := R.fz
  kp := KpX.refl _ _
  up := fun _ h => h
  nw := fun _ h => .inl h
  sl := fun i s e => by
    rw [List.getElem?_map] at e
    cases es : ρ[i]? with
    | none => rw [es] at e; cases e
    | some s0 =>
      rw [es] at e
      cases e
      have z := R.sl i s0 es
      cases s0 <;> first | exact z | exact True.intro
  oo := fun i a ha => nomatch ha
  dj := fun i j _ a ha => nomatch ha
theorem rel_back {F1 : Addr → Prop} {O1 : Fps} {ρ1 : List Slot} {σ1 : L2.St} (R : Rel K C F O ρ σ H) (R1 : Rel K ⟨C.q, H, F⟩ F1 O1 ρ1 σ1 H') : Stp C.q F F1 H H' ∧ Rel K C F1 O ρ σ H' := by
  have s : Stp C.q F F1 H H' := ⟨R1.kp, R1.up, R1.nw⟩
  exact ⟨s, R.step s R1.dk R1.tb fun a h _ => R1.fz a h⟩
end
section
variable {X : Cx} {C : Ct}
theorem pd_told {x a f s0 s1 : Str} {g c P CF : Addr} {k : Nat} {pg : Arguments} {bg : List Stmt} {sg : Scope} {dV kV doc pm cdv ct oc : Value} {an od : Option Addr} {osl : Array (Option Value)} {Ng : List Str}
    {params : Arguments} {body : Expr} {scope : Scope} {tb : XP → TED} {p lpos pos : Pos} (hg : Gl X x) (hm : X.mg x = some (.ref g)) (hk : PySem.W.keepIn X.K (.ref g) = true)
    (lk : X.K.lookup g = some ⟨oc, od, .func (PySem.W.fnOf x x pg bg sg dV kV doc pm an cdv ct), osl⟩) (hcg : PySem.W.codeIn X.K cdv x = true) (hb : L2.Binds X.K (PySem.W.fnOf x x pg bg sg dV kV doc pm an cdv ct) [a] []) (Sg : FnScope Ng [a] sg) (hNg : Ng[0]? = some a) (hva : Vis sg a)
    (hG : LamX.GivesTo X Ng x sg g cdv bg a (X.env.qual ++ "<lambda>") (TTas X.K CF f s0 s1)) (hxm : PySem.W.exmOne X.K (.ref CF) (.ref CF) = some true)
    (TB : LamX.TabB X.base X.mg c P) (hcode : X.env.code = .ref c) (hmT : (P, X.env.qual ++ "<lambda>") ∈ C.q.w.T) (hu : ∀ p ∈ C.q.w.T, p.1 = P → p.2 = X.env.qual ++ "<lambda>") (hr : Room (k + 2) X.A) (L : LamX.LamS X.env.scope scope) (hdef : defaultsOf params X.env = ([], []))
    (hbind : ∀ (q : Str) (cl : List (Str × Addr)) (pm cv ctv : Value), bindArgs (PySem.W.kla_fn "<lambda>" q params body scope cl pm cv ctv) ⟨[], []⟩ = pure [])
    (hbody : ∀ (A : Around) (outer : List Env) (s : Shared) (H : Hp) (E : XK) (f c' : Addr) (C' : Ct) (px : XP), C'.q = C.q → Room k (A.deeper (LamX.lamEnv X scope s.heap.objs.size f c')) → XO (LamX.lamCx X A outer s H E scope f c') C' px (L2.CX X.prog X.w) E →
      PD (LamX.lamCx X A outer s H E scope f c') C' body (tb px))
    (hxmo : XM tb) (hmo : ∀ px, MonoE (tb px))
    (hdb : (x == ("__debug__" : Str)) = false := by decide) (hd : (a == ("__debug__" : Str)) = false := by decide) (hcd : (a == ("__classdict__" : Str)) = false := by decide) :
    PD X C (.Call (.Name x p) [.Lambda params body scope lpos] [] pos) (tTold tb CF f s0 s1) := by
  refine ⟨fun ρ P P' k h => hxmo _ _ (fun c n d ⟨h1, h2, h3⟩ => ⟨h1, h2, k _ h3⟩) _ _ (hmo _ _ _ _ (fun d h => k _ h) h), pe_imp (LamX.pe_lamcall (T := C.q.w.T) (TT := TTas X.K CF f s0 s1)
    (t := fun E σ H Q => ∃ C' px, C'.q = C.q ∧ (∀ c nm d, px c nm d → ∀ dx v F O ρ σ H, Rel X.K C' F O ρ σ H → H dx = some (.xd [(nm, v)]) → Rdd X.K F H d v → E (.ref c) (some dx) H) ∧ lift (rE X.K) X.K C' (tb px) σ H Q)
    hg hm hk lk hcg hb Sg hNg hva hG TB hcode hmT hu hr L hdef hbind (fun A outer s H E f c' hr2 => ⟨fun pins s1 σ1 H1 Q I ⟨C', px, e, hx, h⟩ => (hbody A outer s H E f c' C' px e hr2
      ⟨fun pins σ H1 s1 e s' I c => passes_call (L2.takes_of rfl rfl rfl rfl) (fun _ _ _ _ h => h) pins σ H1 s1 e s' I c, hx⟩).run.run pins s1 σ1 H1 Q I h⟩) hdb hd hcd) fun σ H Q ⟨F, O, ρ, R, q⟩ => ⟨R.tb, fun H1 eN T1 => ?_⟩⟩
  have R1 := rel_ext R eN T1
  have S1 := stp_ext R eN
  refine ⟨⟨C.q, H1, F⟩, fun c nm d => c = CF ∧ nm = f ∧ (∀ v H' F', Stp C.q F F' H H' → Rel X.K C F' O ρ σ H' → rE X.K F' O H H' (.tuple [.str s1, d]) v → Q v H'), rfl, ?_, F, fun _ => [], ρ.map unown, rel_anew R1, hmo _ _ _ _ (fun d h v H2 F2 s2 R2 r2 => ?_) q⟩
  · rintro c nm d ⟨rfl, rfl, hq⟩ dx v F2 O2 ρ2 σ2 H2 R2 e r
    obtain ⟨s2, R2'⟩ := rel_back R1 R2
    refine ⟨true, hxm, fun _ => ⟨rfl, dx, _, v, rfl, e, by simp [List.lookup], fun p hp => ?_⟩, fun z => nomatch z⟩
    obtain ⟨s3, R3, r3⟩ := new_tup (ds := [.str s1, d]) (vs := [.str s1, v]) R2' ⟨_, _, rfl, rfl, _, _, rfl, r, rfl⟩ hp
    exact hq _ _ _ ((S1.trans s2).trans s3) R3 r3
  · refine ⟨by show 2 ≤ sizeLine; decide, fun p hp => ?_⟩
    obtain ⟨s2', R2'⟩ := rel_back R1 R2
    obtain ⟨s3, R3, r3⟩ := new_tup (ds := [.str s0, d]) (vs := [.str s0, v]) R2' ⟨_, _, rfl, rfl, _, _, rfl, r2, rfl⟩ hp
    exact h _ _ _ ((S1.trans s2').trans s3) R3 r3
end
end DL

namespace DL
open PySem PySem.Spec PyProof.Rows L2

/-! ### the end of a law: the def called by the judge's caller; the table of modules is known -/
def Start0 (K : PySem.W.Frag) (cs : List (Addr × Addr)) (a : Addr) (ns : List Int) (H : Hp) : Prop :=
  (∀ p ∈ cs, H p.2 = some (.tbl #[])) ∧ SqL K H a (ns.map V.int) ∧ (∃ o φ, H sysModules = some (.frz o (.ext φ)))
theorem law_end {P : Program} {w : World} {K : PySem.W.Frag} {mg mb : Str → Option Value} {k : Nat} {fa a : Addr} {cs : List (Addr × Addr)} {fd : FuncData} {x : Str} {sp : Sp} {s₁ : Shared} {vs : List Value} {ns : List Int}
    (KX : K.In s₁.heap) (hns : s₁.heap.Ns mainGlobals mg) (hb : s₁.heap.Ns builtinsNs mb) (hbb : ∀ x : Str, x ≠ "__name__" → mb x = bootBuiltins x) (hlim : s₁.heap.NoLimit) (hsys : ∃ mm, s₁.heap.Ns sysModules mm) (nS : K.lookup sysModules = none) (hg : s₁.gens = #[])
    (hT : ∀ p ∈ cs, s₁.heap.get? p.2 = some { cls := .none, data := .fields #[] }) (nT : ∀ p ∈ cs, K.lookup p.2 = none) (C : ∀ p ∈ cs, PySem.W.CodeHd s₁.heap p.1 p.2)
    (hbm : ∃ (bm : Addr) (ob : Obj), mg "__builtins__" = some (.ref bm) ∧ bm ≠ builtinsNs ∧ s₁.heap.get? bm = some ob ∧ ob.cls = .type "module" ∧ ob.dict = some builtinsNs ∧ ob.data = .plain)
    (ha : s₁.heap.get? a = some { cls := .type "list", data := .seq vs.toArray }) (hi : IntsAre vs ns) (hl : ns.length ≤ sizeLine) (hr : Room k callerA)
    (F : ∀ base : Heap, K.In base → base.Ns mainGlobals mg → (∀ p ∈ cs, LamX.TabB base mg p.1 p.2) → FnR NoGu P w K mg base (L2.CX P w) k fa fd [x] sp) (hbind : ∀ (s : Shared) (u : Value), BindsTo s fd ⟨[u], []⟩ [(x, u)])
    (hsp : ∀ H : Hp, Start0 K cs a ns H → sp [.ref a] H (fun v _ => v = .bl true) fun _ _ _ => False) :
    codeAny (model P w) callerA (.call (.ref fa) ⟨[.ref a], []⟩) (fun r s' => r = .ok (.ret (.bool true)) ∧ OldK s₁.heap s'.heap ∧ s'.os = s₁.os ∧ AllBare s'.gens) s₁ := by
  have rv := vals_ints hi
  have lenV := hi.length
  obtain ⟨mm, oS, esS, epS, eS, dS, _⟩ := hsys
  have isT : ∀ b : Addr, b ∈ cs.map (·.2) → s₁.heap.get? b = some { cls := .none, data := .fields #[] } := fun b hb => by
    obtain ⟨p, hp, e⟩ := List.mem_map.mp hb
    rw [← e]
    exact hT p hp
  have sT : sysModules ∉ cs.map (·.2) := fun z => by
    have q := isT _ z
    rw [eS] at q
    cases q
    cases dS
  have sa : a ≠ sysModules := fun z => by
    rw [z, eS] at ha
    cases ha
    cases dS
  have aT : a ∉ cs.map (·.2) := fun z => by
    have q := isT a z
    rw [ha] at q
    cases congrArg Obj.data (Option.some.inj q)
  have memT : ∀ p ∈ cs, p.2 ∈ cs.map (·.2) := fun p hp => List.mem_map.mpr ⟨p, hp, rfl⟩
  -- the heap that is tracked: the tables, the table of modules, the script (unless it is of the written part)
  let H : Hp := fun b => if b = sysModules then some (.frz oS (.ext fun _ => True)) else if b ∈ cs.map (·.2) then some (.tbl #[]) else if b = a ∧ K.lookup a = none then some (.frz { cls := .type "list", data := .seq vs.toArray } (.lst (ns.map V.int))) else none
  have HS : H sysModules = some (.frz oS (.ext fun _ => True)) := if_pos rfl
  have HT : ∀ b, b ∈ cs.map (·.2) → H b = some (.tbl #[]) := fun b hb => by
    show (if b = sysModules then _ else _) = _
    rw [if_neg (fun z => sT (by rw [← z]; exact hb)), if_pos hb]
  have HA : K.lookup a = none → H a = some (.frz { cls := .type "list", data := .seq vs.toArray } (.lst (ns.map V.int))) := fun h => by
    show (if a = sysModules then _ else _) = _
    rw [if_neg sa, if_neg aT, if_pos ⟨rfl, h⟩]
  have Hcases : ∀ b u, H b = some u → (b = sysModules ∧ u = .frz oS (.ext fun _ => True)) ∨ (b ∈ cs.map (·.2) ∧ u = .tbl #[]) ∨ (b = a ∧ K.lookup a = none ∧ u = .frz { cls := .type "list", data := .seq vs.toArray } (.lst (ns.map V.int))) := fun b u e => by
    have e' : (if b = sysModules then some (HO.frz oS (.ext fun _ => True)) else if b ∈ cs.map (·.2) then some (.tbl #[]) else if b = a ∧ K.lookup a = none then some (.frz { cls := .type "list", data := .seq vs.toArray } (.lst (ns.map V.int))) else none) = some u := e
    split at e'
    · exact .inl ⟨‹_›, (Option.some.inj e').symm⟩
    · split at e'
      · exact .inr (.inl ⟨‹_›, (Option.some.inj e').symm⟩)
      · split at e'
        · rename_i h
          exact .inr (.inr ⟨h.1, h.2, (Option.some.inj e').symm⟩)
        · cases e'
  have hS : SqL K H a (ns.map V.int) := by
    cases hk : K.lookup a with
    | none => exact .inl (.inr ⟨_, HA hk⟩)
    | some o =>
      have e := KX a o hk
      rw [ha] at e
      cases e
      exact .inr ⟨_, vs.toArray, _, hk, rfl, rfl, rfl, by rw [List.size_toArray, lenV]; exact hl, by simpa using rv⟩
  have hok : HOk P w H s₁.heap := fun b u e => by
    rcases Hcases b u e with ⟨rfl, rfl⟩ | ⟨hb, rfl⟩ | ⟨rfl, _, rfl⟩
    · exact ⟨eS, True.intro, ⟨oS, eS⟩, fun _ _ _ _ => True.intro⟩
    · exact isT b hb
    · exact ⟨ha, by rw [List.length_map]; exact hl, vs, _, rv, ha⟩
  have base_of : ∀ {b : Addr} {o : Obj}, s₁.heap.get? b = some o → H b = none → (hidT s₁.heap H).get? b = some o := fun e n => hidT_get e n
  have noD : ∀ {b : Addr} {o : Obj}, s₁.heap.get? b = some o → b ≠ sysModules → (∀ vs n, o.data ≠ .seq vs n) → o.data ≠ .fields #[] → H b = none := fun {b o} e h0 h1 h2 => by
    cases q : H b with
    | none => rfl
    | some u =>
      rcases Hcases b u q with ⟨e', _⟩ | ⟨hb, _⟩ | ⟨e', _, _⟩
      · exact absurd e' h0
      · rw [isT b hb] at e
        cases e
        exact (h2 rfl).elim
      · rw [e', ha] at e
        cases e
        exact (h1 _ _ rfl).elim
  have nsK : ∀ {b : Addr} {m : Str → Option Value}, b ≠ sysModules → s₁.heap.Ns b m → (hidT s₁.heap H).Ns b m := fun {b m} h0 ⟨o, es, ep, e, d, r⟩ =>
    ⟨o, es, ep, base_of e (noD e h0 (fun vs n z => by rw [d] at z; cases z) fun z => by rw [d] at z; cases z), d, r⟩
  have hKb : K.In (hidT s₁.heap H) := fun b o e => base_of (KX b o e) (by
    cases q : H b with
    | none => rfl
    | some u =>
      rcases Hcases b u q with ⟨e', _⟩ | ⟨hb, _⟩ | ⟨e', h, _⟩
      · rw [e', nS] at e
        cases e
      · obtain ⟨p, hp, ep⟩ := List.mem_map.mp hb
        rw [← ep, nT p hp] at e
        cases e
      · rw [e', h] at e
        cases e)
  have hM : L2.Mod K mg (hidT s₁.heap H) := ⟨hKb, nsK (by decide) hns, ⟨mb, nsK (by decide) hb, hbb⟩, let ⟨mc, h1, h2⟩ := hlim; ⟨mc, nsK (by decide) h1, h2⟩⟩
  have TB : ∀ p ∈ cs, LamX.TabB (hidT s₁.heap H) mg p.1 p.2 := fun p hp => by
    have hTp := hT p hp
    refine ⟨?_, ?_, fun z => ?_⟩
    · obtain ⟨o, us, file, tf, flags, tg, inF, text, tt, e1, r1, r2, r3, r4, r5, r6, r7, r8, hne⟩ := C p hp
      refine ⟨o, us, file, tf, flags, tg, inF, text, tt, base_of e1 (noD e1 (fun z => ?_) (fun vs n z => ?_) fun z => ?_), r1, r2, r3, r4, r5, r6, r7, r8, hne⟩
      · rw [z, eS] at e1
        cases e1
        rw [dS] at r2
        cases r2
      · rw [r2] at z
        cases z
      · rw [r2] at z
        cases z
        simp at r3
    · obtain ⟨bm, ob, b1, b2, b3, b4, b5, b6⟩ := hbm
      have nG : bm ≠ mainGlobals := fun q => by
        obtain ⟨o, es, ep, e, hd, _⟩ := hns
        rw [q, e] at b3
        cases b3
        rw [hd] at b6
        cases b6
      have nP : bm ≠ p.2 := fun q => by
        rw [q, hTp] at b3
        cases b3
        cases b6
      refine ⟨bm, ob, b1, b2, nG, nP, base_of b3 (noD b3 (fun z => ?_) (fun vs n z => ?_) fun z => ?_), b4, b5, b6⟩
      · rw [z, eS] at b3
        cases b3
        rw [dS] at b6
        cases b6
      · rw [b6] at z
        cases z
      · rw [b6] at z
        cases z
    · obtain ⟨o, es, ep, e, hd, _⟩ := hns
      rw [z, hTp] at e
      cases e
      cases hd
  have e0 : Env0 P w K mg (hidT s₁.heap H) callerA [] s₁ H := ⟨rfl, hM, fun b o e => of_hidT e, Nat.le_of_eq (hidT_size _ _), trivial, fun b hb => absurd (show b ∈ ([] : List Addr) from hb) (by simp), hok, .of_eq hg⟩
  refine codeAny_mono ((F _ hKb (nsK (by decide) hns) TB).run callerA [] s₁ H ⟨[.ref a], []⟩ [.ref a] [.ref a] _ _ hr rfl e0 (hbind s₁ (.ref a)) (.cons rfl .nil) (hsp H ⟨fun p hp => HT _ (memT p hp), hS, oS, _, HS⟩)) fun r s' h => ?_
  cases r with
  | error e =>
    obtain ⟨_, _, _, _, _, _, _, _, _, _, _, _, z⟩ := (show L2.CX P w [] H s₁ _ e s' from h)
    exact z.elim
  | ok fl =>
    cases fl with
    | next => exact False.elim h
    | brk => exact False.elim h
    | cont => exact False.elim h
    | ret u =>
      obtain ⟨v, H', os, bare, un, hok', r', q⟩ := h
      cases (show v = .bl true from q)
      obtain rfl : u = Value.bool true := r'
      have key : ∀ b o, b ∉ cs.map (·.2) → s₁.heap.get? b = some o → s'.heap.get? b = some o := fun b o nb e => by
        cases q : H b with
        | none => exact un.keep b o e q (by intro z; exact absurd (show b ∈ ([] : List Addr) from z) (by simp)) (by simp)
        | some u =>
          have frz : ∀ {ob : Obj} {t : HO}, H b = some (.frz ob t) → s'.heap.get? b = some o := fun {ob t} z => by
            have z2 := un.frzs b ob _ z
            obtain ⟨e1, _⟩ := hok b _ z
            obtain ⟨e2, _⟩ := hok' b _ z2
            rw [e] at e1; cases e1
            exact e2
          rcases Hcases b u q with ⟨_, rfl⟩ | ⟨hb, _⟩ | ⟨_, _, rfl⟩
          · exact frz q
          · exact absurd hb nb
          · exact frz q
      have grown : ∀ p ∈ cs, ∃ more : Array Value, s'.heap.get? p.2 = some { cls := .none, data := .fields more } := fun p hp => by
        obtain ⟨more, z⟩ := un.tbls p.2 #[] (HT _ (memT p hp))
        exact ⟨_, hok' p.2 _ z⟩
      refine ⟨rfl, ⟨fun b o e => ?_, fun b o e => ?_⟩, os, bare⟩
      · by_cases hb : b ∈ cs.map (·.2)
        · obtain ⟨p, hp, ep⟩ := List.mem_map.mp hb
          obtain ⟨more, hm⟩ := grown p hp
          rw [← ep] at e ⊢
          rw [hT p hp] at e
          cases e
          exact .inr (.inl ⟨((C p hp).tab (hT p hp)).isCodeTable, rfl, #[], more, rfl, by rw [Array.empty_append]; exact hm⟩)
        · exact .inl (key b o hb e)
      · by_cases hb : b ∈ cs.map (·.2)
        · obtain ⟨p, hp, ep⟩ := List.mem_map.mp hb
          obtain ⟨more, hm⟩ := grown p hp
          rw [← ep]
          exact ⟨_, hm⟩
        · exact ⟨o, key b o hb e⟩
/-- what is to be shown of the law at the head's heap h -/
def LawR (l : PySem.W.OpenLaw) (w : World) (K : PySem.W.Frag) (k n : Nat) (x : Str) (mg : Str → Option Value) (fa : Addr) (h : Heap) : Prop :=
  ∃ (fd : FuncData) (cs : List (Addr × Addr)) (sp : Sp), (∀ p ∈ cs, h.get? p.2 = some { cls := .none, data := .fields #[] }) ∧ (∀ p ∈ cs, K.lookup p.2 = none) ∧ (∀ p ∈ cs, PySem.W.CodeHd h p.1 p.2) ∧ K.lookup sysModules = none ∧ (∀ (s : Shared) (u : Value), BindsTo s fd ⟨[u], []⟩ [(x, u)]) ∧
    (∀ (H : Hp) (a : Addr) (ns : List Int), ns.length ≤ n → Start0 K cs a ns H → sp [.ref a] H (fun v _ => v = .bl true) fun _ _ _ => False) ∧
    ∀ base : Heap, K.In base → base.Ns mainGlobals mg → (∀ p ∈ cs, LamX.TabB base mg p.1 p.2) → FnR NoGu l.prog w K mg base (L2.CX l.prog w) k fa fd [x] sp
theorem walkR {l : PySem.W.OpenLaw} {n k : Nat} {q : Program} {loose : List Str} {XP : (Str → Option Value) → Heap → Prop} {YP : World → Heap → Prop} {d : DefRec} {K : Params → PySem.W.Frag} {x : Str}
    (hn : l.most = some n) (hn2 : n ≤ sizeLine) (hdf : d.params.defaults = []) (hr : Room k callerA) (hY : ∀ (w : World) (h : Heap), YP w h → (K w.params).In h) (hi : importsNone q = true)
    (F : ∀ (w : World) (mg : Str → Option Value) (fa : Addr) (h : Heap), YP w h → (K w.params).In h → h.Ns mainGlobals mg → mg d.name = some (.ref fa) → LawR l w (K w.params) k n x mg fa h) :
    PySem.W.WalkO q loose XP YP l.row.toRowW d [] (fun f vs => PySem.call f vs) := by
  refine Att.attach_callB hn hdf fun w s₀ s₁ mg mb fa o pm cd doc a vs ns G Y ho hd hcd hmg hobj hints hlen hbits hg => ?_
  have KX := hY w _ Y
  obtain ⟨fd, cs, sp, hT, nT, C, nS, hb, hsp, hF⟩ := F w mg fa _ Y KX G.T.g hmg
  obtain ⟨mm, hmm, _⟩ := (G.T.seer hi).mods
  exact law_end KX G.T.g G.T.b G.T.builtins G.T.nolimit ⟨mm, hmm⟩ nS hg hT nT C G.T.bmain hobj hints (Nat.le_trans hlen hn2) hr hF hb fun H h0 => hsp H a ns hlen h0
end DL

namespace DL
open PySem PySem.Spec PyProof.Rows L2

/-! ### comparisons as tests -/
section
variable {X : Cx} {C : Ct} {e e' a b : Expr} {te ta tb : TED} {pos p2 : Pos}
theorem dt_2 {r : R2} {g : D → D → (D → Prop) → Prop} (hp : ∀ {t u : TE}, PE X a t → PE X b u → PT X e' (tTest (tOp r t u))) (h : By2 X C rE r g) (mg : Mo2 g) (ha : PO X C a ta) (hb : PO X C b tb) : DT X C e' (tTestD (dBi g ta tb)) :=
  ⟨fun ρ P P' k => ha.mono _ _ _ fun d => hb.mono _ _ _ fun d' => mg _ _ _ _ fun d => mono_isB k, pt_imp (hp ha.run hb.run) fun σ H Q ⟨F, O, ρ, R, q⟩ => ⟨F, O, ρ, R, ha.mono _ _ _ (fun x k v H1 F1 s1 R1 r1 =>
    ⟨F1, O, ρ, R1, hb.mono _ _ _ (fun y k2 u H2 F2 s2 R2 r2 => h R2 (rO_stp R1 s2 r1) r2 (mg _ _ _ _ (fun z kz vz H3 F3 s3 R3 r3 => by
      obtain ⟨b, e, hb⟩ := rdd_isB r3 kz
      exact ⟨b, e, hb H3 F3 ((s1.trans s2).trans s3) R3⟩) k2)) k⟩) q⟩⟩
theorem dt_lt (ha : PO X C a ta) (hb : PO X C b tb) : DT X C (.Compare a [.Lt] [b] pos) (tTestD (dBi gLt ta tb)) := dt_2 (fun h h' => pt_cmpR op_lt h h' (nomark _)) (by_I0 fun _ _ _ _ _ => by exact rfl) mo_gI0 ha hb
theorem dt_le (ha : PO X C a ta) (hb : PO X C b tb) : DT X C (.Compare a [.LtE] [b] pos) (tTestD (dBi gLe ta tb)) := dt_2 (fun h h' => pt_cmpR op_le h h' (nomark _)) (by_I0 fun _ _ _ _ _ => by exact rfl) mo_gI0 ha hb
theorem dt_gt (ha : PO X C a ta) (hb : PO X C b tb) : DT X C (.Compare a [.Gt] [b] pos) (tTestD (dBi gGt ta tb)) := dt_2 (fun h h' => pt_cmpR op_gt h h' (nomark _)) (by_I0 fun _ _ _ _ _ => by exact rfl) mo_gI0 ha hb
theorem dt_ge (ha : PO X C a ta) (hb : PO X C b tb) : DT X C (.Compare a [.GtE] [b] pos) (tTestD (dBi gGe ta tb)) := dt_2 (fun h h' => pt_cmpR op_ge h h' (nomark _)) (by_I0 fun _ _ _ _ _ => by exact rfl) mo_gI0 ha hb
theorem dt_eqS (ha : PO X C a ta) (hb : PO X C b tb) : DT X C (.Compare a [.Eq] [b] pos) (tTestD (dBi (gEqS false) ta tb)) := dt_2 (fun h h' => pt_cmpR op_eq h h' (nomark _)) by_eqS mo_gEqS ha hb
theorem dt_neS (ha : PO X C a ta) (hb : PO X C b tb) : DT X C (.Compare a [.NotEq] [b] pos) (tTestD (dBi (gEqS true) ta tb)) := dt_2 (fun h h' => pt_cmpR op_ne h h' (nomark _)) by_neS mo_gEqS ha hb
theorem run_nilT {neg : Bool} {op : CmpOp} (he : PO X C e te) (hnm : ∀ {t u : TE}, PE X e t → PE X (.List [] p2) u → PT X (.Compare e [op] [.List [] p2] pos) (tTest (tOp (rEqNil X.K neg) t u))) : DT X C (.Compare e [op] [.List [] p2] pos) (tTestD (dEqNil neg te)) := by
  refine ⟨fun ρ P P' k => he.mono _ _ _ fun d => mo_gNil d _ _ fun d => mono_isB k, pt_imp (hnm he.run (pe_lst pa_nil)) fun σ H Q ⟨F, O, ρ, R, q⟩ => ⟨F, O, ρ, R, he.mono _ _ _ (fun d k v H1 F1 s1 R1 r1 => ?_) q⟩⟩
  refine ⟨Nat.zero_le _, fun p n => ?_⟩
  have R2 := R1.new (o := .lst []) n
  refine by_nil (H := H1) R2 ?_ upd_same (mo_gNil d _ _ (fun z hz vz rz => by
    obtain ⟨b, e, hb⟩ := rdd_isB rz hz
    exact ⟨b, e, hb _ F1 (s1.trans (Stp.new n)) R2⟩) k)
  have z := rO_stp R1 (Stp.new (o := .lst []) n) (show rO X.K F1 O H1 H1 d v from by cases d <;> exact r1)
  cases d <;> exact z
theorem dt_eqNil (hu : X.A.units + 64 < cLine) (he : PO X C e te) : DT X C (.Compare e [.Eq] [.List [] p2] pos) (tTestD (dEqNil false te)) := run_nilT he fun h h' => pt_cmpR (op_eqNil hu) h h' (nomark _)
theorem dt_neNil (hu : X.A.units + 64 < cLine) (he : PO X C e te) : DT X C (.Compare e [.NotEq] [.List [] p2] pos) (tTestD (dEqNil true te)) := run_nilT he fun h h' => pt_cmpR (op_neNil hu) h h' (nomark _)
theorem pd_ifE {c : Expr} {t : TTD} (hc : DT X C c t) (ha : PD X C a ta) (hb : PD X C b tb) : PD X C (.IfExp c a b pos) (tIfD t ta tb) := pv_if (R' := rE) hc ha hb
end
/-- the names of built-ins that stand for themselves -/
structure Blt (mg : Str → Option Value) : Prop where
  int : mg "int" = none
  list : mg "list" = none
  max : mg "max" = none
  len : mg "len" = none
  abs : mg "abs" = none
  str : mg "str" = none
  tuple : mg "tuple" = none
  bool : mg "bool" = none
  isinstance : mg "isinstance" = none
  repr : mg "repr" = none
  range : mg "range" = none
  enumerate : mg "enumerate" = none
  zip : mg "zip" = none
/-! ### defs of the text, their promises -/
structure Df (K : PySem.W.Frag) (mg : Str → Option Value) (x : Str) (st : Stmt) (ps : List Str) : Prop where
  ex : ∃ f fd, L2.Fun K x x st f fd ∧ mg x = some (.ref f) ∧ Binds K fd ps []
theorem cal_mk {G : Around → Prop} {P : Program} {w : World} {K : PySem.W.Frag} {mg : Str → Option Value} {base : Heap} {k : Nat} {x : Str} {st : Stmt} {N ps : List Str} {wd : Wd} {Fd : FD}
    (D : Df K mg x st ps) (S : FnScope N ps (defScope st)) (hGd : ∀ A env, G A → G (A.deeper env)) (len : ∀ as Q Z, Fd.run as Q Z → as.length = ps.length)
    (hbody : ∀ (f : Addr) (cdv : Value) (A : Around) (outer : List Env) (s : Shared) (H : Hp) (E : XK) (C : Ct) (px : XP), Room k (A.deeper (envOfC x (defScope st) s.heap.objs.size f cdv)) → G (A.deeper (envOfC x (defScope st) s.heap.objs.size f cdv)) → C.q.w = wd →
      XO (cxOf (L2.CX P w) P w K mg base N x (defScope st) f cdv A outer s H E) C px (L2.CX P w) E →
      ∀ as Q, Fd.run as Q px → ∃ t, PSDs (cxOf (L2.CX P w) P w K mg base N x (defScope st) f cdv A outer s H E) C (defBody st) t ∧ t { nx := fun _ => Q .none, rt := Q } (startD N as)) :
    Cal G P w K mg base (k + 1) x ps wd Fd := by
  obtain ⟨f, fd, F, hm, hb⟩ := D.ex
  exact ⟨f, fd, fnr_mk F S hGd len (fun cdv _ => hbody f cdv), hm, F.kp, hb⟩
/-- .. with its code object known (a def that makes lambdas) -/
structure DfC (K : PySem.W.Frag) (mg : Str → Option Value) (x : Str) (st : Stmt) (ps : List Str) (c : Addr) : Prop where
  ex : ∃ f fd, L2.Fun K x x st f fd ∧ mg x = some (.ref f) ∧ Binds K fd ps [] ∧ fd.code = .ref c
theorem cal_mkC {G : Around → Prop} {P : Program} {w : World} {K : PySem.W.Frag} {mg : Str → Option Value} {base : Heap} {k : Nat} {x : Str} {st : Stmt} {N ps : List Str} {wd : Wd} {Fd : FD} {c : Addr}
    (D : DfC K mg x st ps c) (S : FnScope N ps (defScope st)) (hGd : ∀ A env, G A → G (A.deeper env)) (len : ∀ as Q Z, Fd.run as Q Z → as.length = ps.length)
    (hbody : ∀ (f : Addr) (cdv : Value), cdv = .ref c → ∀ (A : Around) (outer : List Env) (s : Shared) (H : Hp) (E : XK) (C : Ct) (px : XP), Room k (A.deeper (envOfC x (defScope st) s.heap.objs.size f cdv)) → G (A.deeper (envOfC x (defScope st) s.heap.objs.size f cdv)) → C.q.w = wd →
      XO (cxOf (L2.CX P w) P w K mg base N x (defScope st) f cdv A outer s H E) C px (L2.CX P w) E →
      ∀ as Q, Fd.run as Q px → ∃ t, PSDs (cxOf (L2.CX P w) P w K mg base N x (defScope st) f cdv A outer s H E) C (defBody st) t ∧ t { nx := fun _ => Q .none, rt := Q } (startD N as)) :
    Cal G P w K mg base (k + 1) x ps wd Fd := by
  obtain ⟨f, fd, F, hm, hb, hc⟩ := D.ex
  exact ⟨f, fd, fnr_mk F S hGd len (fun cdv e => hbody f cdv (e.symm.trans hc)), hm, F.kp, hb⟩
/-- what is known of told -/
structure ToldF (K : PySem.W.Frag) (mg : Str → Option Value) (x a en ecl : Str) (st : Stmt) (CF : Addr) (f : Str) : Prop where
  ex : ∃ (g : Addr) (oc : Value) (od : Option Addr) (kV doc pm : Value) (an : Option Addr) (cdv ct : Value) (osl : Array (Option Value)), mg x = some (.ref g) ∧ PySem.W.keepIn K (.ref g) = true ∧
    K.lookup g = some ⟨oc, od, .func (PySem.W.fnOf x x (defArgs st) (defBody st) (defScope st) .none kV doc pm an cdv ct), osl⟩ ∧ PySem.W.codeIn K cdv x = true ∧ L2.Binds K (PySem.W.fnOf x x (defArgs st) (defBody st) (defScope st) .none kV doc pm an cdv ct) [a] []
  xf : XfC K CF
  no : PySem.W.findIn K (.ref CF) f = some none
  xm : PySem.W.exmOne K (.ref CF) (.ref CF) = some true
  mgE : mg ecl = some (.ref CF)
  sc : FnScope [a, en] [a] (defScope st)
/-- what is known of a def that makes lambdas: its code object, its table -/
structure LamF (mg : Str → Option Value) (base : Heap) (w : Wd) (qual : Str) (cdv : Value) (c P : Addr) : Prop where
  tb : LamX.TabB base mg c P
  code : cdv = .ref c
  mem : (P, qual ++ "<lambda>") ∈ w.T
  uni : ∀ p ∈ w.T, p.1 = P → p.2 = qual ++ "<lambda>"
theorem lam_env {X : Cx} {A : Around} {outer : List Env} {s : Shared} {H : Hp} {E : XK} {scope : Scope} {f c : Addr} {x : Str} (h : scope.names.lookup x = some .globalImplicit) : Gl (LamX.lamCx X A outer s H E scope f c) x := h
/-! readings that are monotone, without a derivation -/
theorem mo_val (i : Nat) : MonoE (tValD i) := fun ρ P P' k h => by
  unfold tValD at h ⊢
  split at h
  · exact k _ h
  · exact h
theorem mo_c (d : D) : MonoE (tCD d) := fun ρ P P' k h => k _ h
theorem mo_bi {g : D → D → (D → Prop) → Prop} {ta tb : TED} (mg : Mo2 g) (ha : MonoE ta) (hb : MonoE tb) : MonoE (dBi g ta tb) := fun ρ P P' k => ha _ _ _ fun d => hb _ _ _ fun d' => mg _ _ _ _ k
theorem mo_test {t : TED} (h : MonoE t) : MonoT (tTestD t) := fun ρ P P' k => h _ _ _ fun d => mono_isB k
def MonoA (t : TAD) : Prop := ∀ ρ (P P' : List Arg → Prop), (∀ d, P d → P' d) → t ρ P → t ρ P'
theorem mo_anil : MonoA aNil := fun _ _ _ k h => k _ h
theorem mo_acons {te : TED} {ta : TAD} (h : MonoE te) (ha : MonoA ta) : MonoA (aCons te ta) := fun ρ P P' k => h _ _ _ fun d => ha _ _ _ fun as => k _
def MonoL (t : TLD) : Prop := ∀ ρ (P P' : List D → Prop), (∀ d, P d → P' d) → t ρ P → t ρ P'
theorem mo_lnil : MonoL lNil := fun _ _ _ k h => k _ h
theorem mo_lcons {te : TED} {ta : TLD} (h : MonoE te) (ha : MonoL ta) : MonoL (lCons te ta) := fun ρ P P' k => h _ _ _ fun d => ha _ _ _ fun as => k _
theorem mo_call {Fd : FD} {px : XP} {t : TAD} (h : MonoA t) : MonoE (tCallD Fd px t) := fun ρ P P' k => h _ _ _ fun as => Fd.mono _ _ _ _ _ k fun _ _ _ z => z
theorem mo_callK {Fd : FD} {px : XP} {is : List Nat} {t : TLD} (h : MonoL t) : MonoE (tCallK Fd px is t) := fun ρ P P' k => h _ _ _ fun as => Fd.mono _ _ _ _ _ k fun _ _ _ z => z
theorem mo_if {t : TTD} {ta tb : TED} (ht : MonoT t) (ha : MonoE ta) (hb : MonoE tb) : MonoE (tIfD t ta tb) := fun ρ P P' k => ht _ _ _ fun c h => mono_ite h (ha _ _ _ k) (hb _ _ _ k)
end DL

namespace DL
open PySem PySem.Spec PyProof.Rows L2
/-! ### several values at once, where some names are cells -/
theorem names_put (is : List Nat) : ∀ (vs : List V) (σ : L2.St) (H : Hp) (Q : L2.St → Hp → Prop), vs.length = is.length → Q (putV σ is vs) H → gNames is vs σ H Q := by
  induction is with
  | nil =>
    intro vs σ H Q hl h
    cases vs with
    | nil => exact ⟨rfl, h⟩
    | cons v vs => cases hl
  | cons i is ih =>
    intro vs σ H Q hl h
    cases vs with
    | nil => cases hl
    | cons v vs => exact ⟨v, vs, rfl, ih vs (σ.set i (some v)) H Q (by simpa using hl) h⟩
theorem psd_asgM {X : Cx} {C : Ct} {es : List Expr} {tm : TMD} {tg : Expr} {pos pos' : Pos} {x1} (is : List Nat) (ha : DM X C es tm) (hg : PG X tg (gTgt X.K (.tup is))) (hl : is.length ≤ sizeLine := by decide) (hs : swapsWithSole [tg] (.Tuple es x1 pos') pos.line X.env = pure false := by rfl) (hw : swappedStores [tg] (.Tuple es x1 pos') X.env = pure none := by rfl)
    (h1 : (assignEach [tg] X.env).map (·.2) = [assign tg X.env] := by rfl) : PSD X C (.Assign [tg] (.Tuple es x1 pos') pos) (sPar is tm) :=
  ⟨mono_par ha _, ps_imp (ps_asg (pe_tup ha.run) hg hs hw h1) fun D σ H ⟨F, O, ρ, R, q⟩ => ⟨F, O, ρ, R, ha.mono _ _ _ (fun ss k vs as H1 F1 s1 R1 r1 _ => by
    have hl' := LsR.len ss vs as r1
    rw [k.1] at hl'
    refine ⟨by rw [hl']; exact hl, fun p n => ?_⟩
    refine ⟨p, vs, rfl, SqT.of upd_same, hl', names_put is vs _ _ _ hl' ?_⟩
    obtain ⟨O', R'⟩ := Rel.putS is ss vs as O ρ σ (R1.new (o := .tup vs) n) (LsR.stp R1 (Stp.new n) ss vs as r1) k.1
    exact k.2 F1 O' _ _ (FSt.of R (s1.trans (Stp.new n))) R') q⟩⟩
end DL

namespace Z
open PySem PySem.Spec PyProof.Rows L2 DL

def top (i : Nat) : Stmt := PySem.Challenge.pw_withintwo_k11_polynomials_and_fractions.main.body.getD i (.Pass ⟨0, 0, 0, 0⟩)
abbrev sDeck : Stmt := top 17
abbrev sDraw : Stmt := top 18
def deckAt (w : Wd) (H : Hp) (p l : Addr) (cells : List Int) (m n : Int) : Prop := H p = some (.dK [(.inr w.kc, .ref l), (.inr w.km, .int m), (.inr w.kd, .int n)]) ∧ H l = some (.lst (cells.map V.int))
def spDeck (K : PySem.W.Frag) (w : Wd) : Sp := fun vs H Q _ => ∃ (a : Addr) (ns : List Int), vs = [.ref a] ∧ SqL K H a (ns.map V.int) ∧ ns.length ≤ 63 ∧
  ∀ p l cells m H', Same H H' → H p = none → H l = none → p ≠ l → cells.length ≤ 63 → deckAt w H' p l cells m 0 → (∀ b ps, H' b = some (.tbl ps) → H b = some (.tbl ps)) → Q (.ref p) H'
section
variable {P : Program} {w : World} {K : PySem.W.Frag} {mg : Str → Option Value} {base : Heap}
abbrev nDeck : List Str := ["_law_script", "_law_mixed", "_law_cell"]
theorem scDeck : FnScope nDeck ["_law_script"] (defScope sDeck) := ⟨rfl, rfl, rfl, by decide +kernel, rfl, by decide +kernel, by decide +kernel⟩
theorem ok_deck {f : Addr} {fd : FuncData} (F : L2.Fun K "_law_deck" "_law_deck" sDeck f fd) (B : Blt mg) : FnOk P w K mg base (L2.CX P w) 1 f fd ["_law_script"] (spDeck K ⟨"cells", "mixed", "draws", []⟩) := by
  refine F.okX scDeck (fun vs H Q E ⟨a, ns, e, _⟩ => by rw [e]; rfl) fun cdv A outer s H vs Q E hr ⟨a, ns, e, hS, hl, k⟩ => ?_
  subst e
  have nd : nDeck.Nodup := scDeck.nd
  refine ⟨_, pss_cons (ps_set (i := 1) nd rfl (.inl rfl) pe_int) (pss_cons (ps_for (passes_of rfl) rfl (pi_list (pe_slice sl_list (pv 0) po_none (po_some pe_int))) (pg_name (i := 2) nd rfl (.inl rfl))
    (pss_one (ps_set (i := 1) nd rfl (.inl rfl) (pe_op op_mod (pe_callTy call_int1 (by rfl) B.int (by decide +kernel) (pa_cons (pe_op op_add (pe_op op_add (pe_op op_mul (pv 1) pe_int) (pe_op op_mod (pe_callTy call_int1 (by rfl) B.int (by decide +kernel) (pa_cons (pv 2) pa_nil)) pe_int)) pe_int) pa_nil)) pe_int))))
    (pss_one (ps_ret (pe_disp (pps_cons pe_str (pe_revL (pe_callTy call_list_of (by rfl) B.list (by decide +kernel) (pa_cons (pe_slice sl_list (pv 0) po_none (po_some pe_int)) pa_nil))) (pps_cons pe_str (pv 1) (pps_cons pe_str pe_int pps_nil))) rfl rfl (List.cons_ne_nil _ _) (by decide))))), ?_⟩
  have hcut : cutV (ns.map V.int) none (some 63) = ns.map V.int := by
    unfold cutV
    rw [HT.sIx_none, show (63 : Int) = ((63 : Nat) : Int) from rfl, HT.sIx_nat, List.drop_zero, Nat.sub_zero, List.take_of_length_le (by rw [List.length_map]; omega)]
  refine ⟨_, rfl, 63, rfl, a, _, rfl, hS, fun b0 n0 => ?_⟩
  rw [hcut]
  refine ⟨b0, rfl, ⟨_, SqL.of upd_same⟩, ?_⟩
  refine for_list (xs := ns.map V.int) (fun i σ H' => H' = upd H b0 (.lst (ns.map V.int)) ∧ ∃ m c, σ = [some (.ref a), some (.int m), c]) ⟨rfl, _, _, rfl⟩ (fun i σ H' _ ⟨e, _⟩ => by rw [e]; exact SqL.of upd_same) ?_ ?_
  · rintro i x σ H' ex ⟨rfl, m, c, rfl⟩
    obtain ⟨z, hz, rfl⟩ : ∃ z, ns[i]? = some z ∧ x = V.int z := by
      rw [List.getElem?_map] at ex
      cases e : ns[i]? with
      | none => rw [e] at ex; cases ex
      | some z => rw [e] at ex; exact ⟨z, rfl, (Option.some.inj ex).symm⟩
    refine ⟨_, rfl, m, _, rfl, rfl, .inr ⟨by decide, by decide⟩, _, rfl, .inl ⟨z, rfl, z, _, rfl, rfl, (by show (0 : Int) < _; decide), _, _, rfl, rfl, _, _, rfl, rfl, .inl ⟨_, rfl, _, _, rfl, rfl, (by show (0 : Int) < _; decide), ?_⟩⟩⟩
    exact ⟨rfl, _, _, rfl⟩
  · rintro σ H' ⟨rfl, m, c, rfl⟩
    have n1 : ∀ {b o}, H b = some o → b ≠ b0 := fun e z => by rw [z, n0] at e; cases e
    intro p np
    have hp : p ≠ b0 := fun z => by rw [z, upd_same] at np; cases np
    have np0 : H p = none := by rw [upd_ne hp] at np; exact np
    have hSx : ∀ {H2 : Hp}, Same H H2 → SqL K H2 a (ns.map V.int) := fun {H2} h => h.seq hS
    have sm1 : Same H (upd (upd H b0 (.lst (ns.map V.int))) p (.dK [])) := fun b o e => by rw [upd_ne (ne_of_none e np0), upd_ne (ne_of_none e n0)]; exact e
    refine ⟨_, rfl, 63, rfl, a, _, rfl, hSx sm1, fun b1 n2 => ?_⟩
    rw [hcut]
    have hb1 : H b1 = none := by
      cases e : H b1 with
      | none => rfl
      | some o => rw [sm1 _ _ e] at n2; cases n2
    have p1 : p ≠ b1 := fun z => by rw [← z, upd_same] at n2; cases n2
    refine ⟨b1, _, rfl, .inl (SqL.of upd_same), fun l1 n3 => ⟨l1, _, rfl, SqL.of upd_same, fun l n4 => ?_⟩⟩
    have hl1 : H l1 = none ∧ p ≠ l1 := by
      refine ⟨?_, fun z => ?_⟩
      · cases e : H l1 with
        | none => rfl
        | some o => rw [upd_ne (ne_of_none e hb1), sm1 _ _ e] at n3; cases n3
      · rw [← z, upd_ne p1, upd_same] at n3; cases n3
    have hl : H l = none ∧ p ≠ l := by
      refine ⟨?_, fun z => ?_⟩
      · cases e : H l with
        | none => rfl
        | some o => rw [upd_ne (ne_of_none e hl1.1), upd_ne (ne_of_none e hb1), sm1 _ _ e] at n4; cases n4
      · rw [← z, upd_ne hl1.2, upd_ne p1, upd_same] at n4; cases n4
    refine ⟨_, rfl, ?_⟩
    refine ⟨?_, [(.inr "cells", .ref l), (.inr "mixed", .int m), (.inr "draws", .int 0)], rfl, (by show 3 ≤ 15; decide), ?_⟩
    · rw [upd_ne hl.2, upd_ne hl1.2, upd_ne p1, upd_same]
    · refine k p l ns.reverse m _ (fun b o e => ?_) np0 hl.1 hl.2 (by rw [List.length_reverse]; omega) ⟨?_, ?_⟩ fun b ps e => ?_
      · rw [upd_ne (ne_of_none e np0), upd_ne (ne_of_none e hl.1), upd_ne (ne_of_none e hl1.1), upd_ne (ne_of_none e hb1)]
        exact sm1 _ _ e
      · rw [upd_same]
        rfl
      · rw [upd_ne (Ne.symm hl.2), upd_same, List.map_reverse]
      · by_cases z : b = p
        · rw [z, upd_same] at e; cases e
        · rw [upd_ne z] at e
          by_cases z : b = l
          · rw [z, upd_same] at e; cases e
          · rw [upd_ne z] at e
            by_cases z : b = l1
            · rw [z, upd_same] at e; cases e
            · rw [upd_ne z] at e
              by_cases z : b = b1
              · rw [z, upd_same] at e; cases e
              · rw [upd_ne z, upd_ne ‹b ≠ p›] at e
                by_cases z : b = b0
                · rw [z, upd_same] at e; cases e
                · rw [upd_ne z] at e; exact e
end
end Z

namespace Z
open PySem PySem.Spec PyProof.Rows L2 DL
/-- draw(deck, n): some number from 0 to n - 1 -/
def FdDraw : FD := ⟨fun as P _ => ∃ n : Int, as = [.deck, .dat (.int n)] ∧ 1 ≤ n ∧ n < 1073741824 ∧ ∀ r, 0 ≤ r → r < n → P (.int r),
  fun as P P' Z Z' k _ ⟨n, e, h1, h2, h3⟩ => ⟨n, e, h1, h2, fun r a b => k _ (h3 r a b)⟩⟩
abbrev dkv (l : Addr) (m c : Int) : List (Key × V) := [(.inr "cells", .ref l), (.inr "mixed", .int m), (.inr "draws", .int c)]
theorem ne_cm : ¬ ((.inr "cells" : Key) = .inr "mixed") := by decide +kernel
theorem ne_cd : ¬ ((.inr "cells" : Key) = .inr "draws") := by decide +kernel
theorem ne_md : ¬ ((.inr "mixed" : Key) = .inr "draws") := by decide +kernel
theorem dk_cells (l : Addr) (m c : Int) : valV (dkv l m c) (.inr "cells") = some (.ref l) := by rw [valV_pos rfl]
theorem dk_mixed (l : Addr) (m c : Int) : valV (dkv l m c) (.inr "mixed") = some (.int m) := by rw [valV_neg ne_cm, valV_pos rfl]
theorem dk_draws (l : Addr) (m c : Int) : valV (dkv l m c) (.inr "draws") = some (.int c) := by rw [valV_neg ne_cd, valV_neg ne_md, valV_pos rfl]
theorem dk_put (l : Addr) (m c c' : Int) : putK (dkv l m c) (.inr "draws") (.int c') = dkv l m c' := by
  unfold putK
  have h : (dkv l m c).any (fun kv => decide (kv.1 = (.inr "draws" : Key))) = true := by simp
  rw [if_pos h]
  show [if (.inr "cells" : Key) = .inr "draws" then _ else _, if (.inr "mixed" : Key) = .inr "draws" then _ else _, if (.inr "draws" : Key) = .inr "draws" then _ else _] = _
  rw [if_neg ne_cd, if_neg ne_md, if_pos rfl]
theorem get_of {H : Hp} {p : Addr} {l : Addr} {m c : Int} {x : Str} {v : V} (e : H p = some (.dK (dkv l m c))) (h : valV (dkv l m c) (.inr x) = some v) : DGet H p (.str x) (some v) := by
  rw [← h]
  exact DGet.k (k := .inr x) e
theorem dg {x : Str} {σ : L2.St} {H : Hp} {Q : VK} {p l : Addr} {m c : Int} {v : V} (h : σ[0]? = some (some (.ref p))) (e : H p = some (.dK (dkv l m c))) (hv : valV (dkv l m c) (.inr x) = some v) (k : Q v H) : tDGet (tVar 0) (tC (.str x)) σ H Q := ⟨_, h, _, _, rfl, get_of e hv, k⟩
theorem iteB {b : Bool} {A B : Prop} (hb : b = true) (h : A) : if b = true then A else B := by rw [if_pos hb]; exact h
theorem iteN {b : Bool} {A B : Prop} (hb : b = false) (h : B) : if b = true then A else B := by rw [if_neg (by simp [hb])]; exact h
/-- the deck as it stands while one draws -/
structure Dn (q : Dq) (H H' : Hp) (cells : List Int) (m c : Int) : Prop where
  p : H' q.p = some (.dK (dkv q.l m c))
  l : H' q.l = some (.lst (cells.map V.int))
  n : cells.length ≤ 63
  k : ∀ b o, H b = some o → b ≠ q.p → b ≠ q.l → H' b = some o
section
variable {q : Dq} {H H' : Hp} {cells cells' : List Int} {m c c' : Int} {S : Addr → Prop} {T : List (Addr × Str)}
theorem Dn.ne (d : Dn q H H' cells m c) : q.p ≠ q.l := fun z => by
  have e := d.p
  rw [z, d.l] at e
  cases e
theorem Dn.kx (h : ∃ o, H q.p = some o ∧ ∀ ps, o ≠ .tbl ps) (h' : ∃ o, H q.l = some o ∧ ∀ ps, o ≠ .tbl ps) (d : Dn q H H' cells m c) : KpX q H H' :=
  ⟨fun b o e h1 h2 _ => d.k b o e h1 h2, fun b o e hb => by
    by_cases z : b = q.p
    · rw [z]; exact ⟨_, d.p, fun ps z => nomatch z⟩
    · by_cases y : b = q.l
      · rw [y]; exact ⟨_, d.l, fun ps z => nomatch z⟩
      · exact ⟨o, d.k b o e z y, hb⟩⟩
theorem Dn.new (d : Dn q H H' cells m c) {a : Addr} {o : HO} (n : H' a = none) : Dn q H (upd H' a o) cells m c :=
  ⟨(upd_ne (ne_of_none d.p n)).trans d.p, (upd_ne (ne_of_none d.l n)).trans d.l, d.n, fun b u e h1 h2 => (upd_ne (ne_of_none (d.k b u e h1 h2) n)).trans (d.k b u e h1 h2)⟩
theorem Dn.lst (d : Dn q H H' cells m c) (h : cells'.length ≤ 63) : Dn q H (upd H' q.l (.lst (cells'.map V.int))) cells' m c :=
  ⟨(upd_ne d.ne).trans d.p, upd_same, h, fun b u e h1 h2 => (upd_ne h2).trans (d.k b u e h1 h2)⟩
theorem Dn.drw (d : Dn q H H' cells m c) : Dn q H (upd H' q.p (.dK (dkv q.l m c'))) cells m c' :=
  ⟨upd_same, (upd_ne (Ne.symm d.ne)).trans d.l, d.n, fun b u e h1 h2 => (upd_ne h1).trans (d.k b u e h1 h2)⟩
theorem Dn.end_ {cells0 : List Int} {m0 c0 : Int} (d0 : Dn q H H cells0 m0 c0) (d : Dn q H H' cells m c) (hw : q.w = ⟨"cells", "mixed", "draws", T⟩) (hs : ∃ o φ, H sysModules = some (.frz o (.ext φ))) (ht : LamX.Tabs q.w.T H) (hf : FzOk q S H) :
    Stp q S S H H' ∧ DkOk q H' ∧ LamX.Tabs q.w.T H' ∧ FzOk q S H' := by
  have np : ∀ {b o}, H b = some o → (∀ kvs, o ≠ .dK kvs) → (∀ xs, o ≠ .lst xs) → H' b = some o := fun {b o} e h1 h2 => d.k b o e (fun z => by rw [z, d0.p] at e; cases e; exact h1 _ rfl) fun z => by rw [z, d0.l] at e; cases e; exact h2 _ rfl
  have kx : KpX q H H' := d.kx ⟨_, d0.p, fun ps z => nomatch z⟩ ⟨_, d0.l, fun ps z => nomatch z⟩
  obtain ⟨o, φ, e⟩ := hs
  refine ⟨⟨kx, fun _ h => h, fun _ h => .inl h⟩, ⟨cells, m, c, by rw [hw]; exact d.p, d.l, d.n, o, φ, np e (fun _ z => nomatch z) (fun _ z => nomatch z)⟩, fun p hp => ?_, fun a ha => ?_⟩
  · obtain ⟨ps, h1, h2, h3⟩ := ht p hp
    refine ⟨ps, np h1 (fun _ z => nomatch z) (fun _ z => nomatch z), h2, fun pos cv hc => ?_⟩
    obtain ⟨c1, e1, e2⟩ := h3 pos cv hc
    exact ⟨c1, e1, np e2 (fun _ z => by unfold LamX.CodeO at z; cases z) (fun _ z => by unfold LamX.CodeO at z; cases z)⟩
  · obtain ⟨h1, h2, h3, h4⟩ := hf a ha
    exact ⟨h1, h2, th_of kx h3 h4⟩
end
section
variable {P : Program} {w : World} {K : PySem.W.Frag} {mg : Str → Option Value} {base : Heap}
abbrev nDraw : List Str := ["_law_deck_here", "_law_many", "_law_number_here", "_law_cell"]
theorem scDraw : FnScope nDraw ["_law_deck_here", "_law_many"] (defScope sDraw) := ⟨rfl, rfl, rfl, by decide +kernel, rfl, by decide +kernel, by decide +kernel⟩
theorem ok_draw {f : Addr} {fd : FuncData} (T : List (Addr × Str)) (F : L2.Fun K "_law_draw" "_law_draw" sDraw f fd) (B : Blt mg) : FnOk P w K mg base (L2.CX P w) 1 f fd ["_law_deck_here", "_law_many"] (spD K ⟨"cells", "mixed", "draws", T⟩ FdDraw) := by
  have hlen : ∀ vs H Q E, spD K ⟨"cells", "mixed", "draws", T⟩ FdDraw vs H Q E → vs.length = 2 := fun vs H Q E ⟨q, S, as, _, _, _, _, ra, n, e, _⟩ => by rw [ra.len, e]; rfl
  refine F.okX scDraw hlen fun cdv A outer s H vs Q E hr ⟨q, S, as, hw, hd, ht, hf, ra, n, e, hn1, hn2, k⟩ => ?_
  subst e
  obtain ⟨v1, r1, e1, h1, v2, r2, e2, h2, e3⟩ := ra
  have h1 : v1 = .ref q.p := h1
  have h2 : v2 = .int n := h2
  have e3 : r2 = [] := e3
  subst h1 h2 e3 e2 e1
  have nd : nDraw.Nodup := scDraw.nd
  have hu := hu_of hr
  have hu64 := room_u hr
  refine ⟨_, pss_cons (ps_asg (pe_op op_add (pe_dget hu (pv 0) pe_str (fun _ _ => rfl)) pe_int) (pg_sub (pv 0) pe_str (set_dict hu)))
    (pss_cons (ps_set (i := 2) nd rfl (.inl rfl) (pe_op op_add (pe_dget hu (pv 0) pe_str (fun _ _ => rfl)) (pe_op op_mul pe_int (pe_dget hu (pv 0) pe_str (fun _ _ => rfl)))))
    (pss_cons (ps_if (pt_cmpR (op_neNil hu64) (pe_dget hu (pv 0) pe_str (fun _ _ => rfl)) (pe_lst pa_nil) (nomark _))
        (pss_cons (ps_set (i := 3) nd rfl (.inl rfl) (pe_bm0 PySem.F.plainAttrs_list PySem.F.slot_list_pop PySem.F.type_list_pop mt_pop (pe_dget hu (pv 0) pe_str (fun _ _ => rfl))))
        (pss_cons (ps_if (pt_cmpR op_ge (pv 3) (pe_op op_pow pe_int pe_int) (nomark _))
            (pss_cons (ps_expr (pe_bm PySem.F.plainAttrs_list PySem.F.slot_list_append PySem.F.type_list_append mt_append (pe_dget hu (pv 0) pe_str (fun _ _ => rfl))
                (pa_cons (pe_op op_fdiv (pv 3) (pe_callB (call_max2 rfl) (by rfl) B.max (by decide +kernel) (pa_cons pe_int (pa_cons (pv 1) pa_nil)))) pa_nil)))
              (pss_one (ps_ret (pe_op op_mod (pe_callTy call_int1 (by rfl) B.int (by decide +kernel) (pa_cons (pv 3) pa_nil)) (pv 1))))) pss_nil)
        (pss_one (ps_set (i := 2) nd rfl (.inl rfl) (pe_op op_add (pv 2) (pe_op op_mod (pe_callTy call_int1 (by rfl) B.int (by decide +kernel) (pa_cons (pv 3) pa_nil)) pe_int)))))) pss_nil)
    (pss_cons (ps_set (i := 2) nd rfl (.inl rfl) (pe_op op_mod (pe_callTy call_int1 (by rfl) B.int (by decide +kernel) (pa_cons (pe_op op_add (pe_op op_mul (pv 2) pe_int) pe_int) pa_nil)) pe_int))
    (pss_cons (ps_set (i := 2) nd rfl (.inl rfl) (pe_op op_mod (pe_callTy call_int1 (by rfl) B.int (by decide +kernel) (pa_cons (pe_op op_add (pe_op op_add (pe_op op_mul (pv 2) (pv 2)) (pe_op op_mul pe_int (pe_dget hu (pv 0) pe_str (fun _ _ => rfl)))) pe_int) pa_nil)) pe_int))
    (pss_cons (ps_set (i := 2) nd rfl (.inl rfl) (pe_op op_mod (pe_callTy call_int1 (by rfl) B.int (by decide +kernel) (pa_cons (pe_op op_mul (pv 2) pe_int) pa_nil)) pe_int))
    (pss_one (ps_ret (pe_op op_mod (pe_callTy call_int1 (by rfl) B.int (by decide +kernel) (pa_cons (pe_op op_fdiv (pv 2) pe_int) pa_nil)) (pv 1))))))))), ?_⟩
  obtain ⟨cells, m, c, dp, dl, dn, hs⟩ := hd
  have d0 : Dn q H H cells m c := ⟨by rw [hw] at dp; exact dp, dl, dn, fun b o e _ _ => e⟩
  have fin : ∀ {H' : Hp} {cells' : List Int} {m' c' r : Int}, Dn q H H' cells' m' c' → 0 ≤ r → r < n → Q (.int r) H' := fun {H' cells' m' c' r} d h1 h2 => by
    obtain ⟨a1, a2, a3, a4⟩ := d0.end_ d hw hs (by rw [hw]; exact ht) hf
    exact k r h1 h2 _ _ _ a1 a2 (by rw [hw] at a3; exact a3) a4 rfl
  have hmod : ∀ i : Int, 0 ≤ i % n ∧ i % n < n := fun i => ⟨Int.emod_nonneg _ (by omega), Int.emod_lt_of_pos _ (by omega)⟩
  refine ⟨_, rfl, _, _, rfl, get_of d0.p (dk_draws _ _ _), c, 1, rfl, rfl, ?_⟩
  refine ⟨_, rfl, _, _, rfl, DPut.k (k := .inr "draws") d0.p (by show 3 < sizeLine; decide), ?_⟩
  rw [dk_put]
  have d1 : Dn q H (upd H q.p (.dK (dkv q.l m (c + 1)))) cells m (c + 1) := d0.drw
  generalize upd H q.p (.dK (dkv q.l m (c + 1))) = H1 at d1 ⊢
  refine ⟨_, rfl, _, _, rfl, get_of d1.p (dk_mixed _ _ _), _, rfl, _, _, rfl, get_of d1.p (dk_draws _ _ _), 61473, _, rfl, rfl, .inl ⟨by decide, by decide⟩, _, _, rfl, rfl, ?_⟩
  generalize m + 61473 * (c + 1) = x1
  refine ⟨_, rfl, _, _, rfl, get_of d1.p (dk_cells _ _ _), Nat.zero_le _, fun b0 nb => ?_⟩
  have d2 : Dn q H (upd H1 b0 (.lst [])) cells m (c + 1) := d1.new nb
  have hb0 : upd H1 b0 (.lst []) b0 = some (.lst []) := upd_same
  generalize upd H1 b0 (.lst []) = H2 at d2 hb0 ⊢
  refine ⟨q.l, b0, _, rfl, rfl, SqL.of d2.l, hb0, _, rfl, ?_⟩
  have tail : ∀ {D : Ends} {σ : L2.St} {H' : Hp} {cells' : List Int} {x : Int} {o : Option V}, D.rt = Q → Dn q H H' cells' m (c + 1) → σ = [some (.ref q.p), some (.int n), some (.int x), o] → True := fun _ _ _ => True.intro
  have snoc : cells = [] ∨ ∃ ys z, cells = ys ++ [z] := by
    rcases List.eq_nil_or_concat cells with h | ⟨ys, z, h⟩
    · exact .inl h
    · exact .inr ⟨ys, z, by rw [h, List.concat_eq_append]⟩
  rcases snoc with rfl | ⟨ys, z, rfl⟩
  · refine iteN (by simp) ?_
    refine ⟨_, rfl, _, _, rfl, rfl, .inr ⟨by decide, by decide⟩, _, _, rfl, rfl, .inl ⟨_, rfl, _, _, rfl, rfl, (by show (0 : Int) < _; decide), ?_⟩⟩
    have hx2 : ∀ i : Int, -(2 ^ 64) < i % 2147483647 ∧ i % 2147483647 < 2 ^ 64 := fun i => ⟨by have := Int.emod_nonneg i (b := 2147483647) (by decide); omega, by have := Int.emod_lt_of_pos i (b := 2147483647) (by decide); omega⟩
    refine ⟨_, rfl, _, rfl, _, _, rfl, rfl, .inl (hx2 _), _, rfl, _, _, rfl, get_of d2.p (dk_draws _ _ _), _, _, rfl, rfl, .inl ⟨by decide, by decide⟩, _, _, rfl, rfl, _, _, rfl, rfl, .inl ⟨_, rfl, _, _, rfl, rfl, (by show (0 : Int) < _; decide), ?_⟩⟩
    refine ⟨_, rfl, _, _, rfl, rfl, .inr ⟨by decide, by decide⟩, .inl ⟨_, rfl, _, _, rfl, rfl, (by show (0 : Int) < _; decide), ?_⟩⟩
    exact ⟨_, rfl, _, _, rfl, rfl, ⟨by decide, by decide⟩, .inl ⟨_, rfl, _, rfl, _, n, rfl, rfl, by omega, fin d2 (hmod _).1 (hmod _).2⟩⟩
  · refine iteB (by simp) ?_
    refine ⟨_, rfl, _, _, rfl, get_of d2.p (dk_cells _ _ _), .inl ⟨rfl, _, SqL.of d2.l⟩, q.l, _, .int z, rfl, rfl, d2.l, ?_, ?_⟩
    · simp
    · have hdl : ((ys ++ [z]).map V.int).dropLast = ys.map V.int := by simp
      rw [hdl]
      have d3 : Dn q H (upd H2 q.l (.lst (ys.map V.int))) ys m (c + 1) := d2.lst (by have := d2.n; simp at this; omega)
      generalize upd H2 q.l (.lst (ys.map V.int)) = H3 at d3 ⊢
      refine ⟨_, rfl, 10, 18, rfl, rfl, ⟨by decide, by decide, by decide⟩, z, _, rfl, rfl, _, rfl, ?_⟩
      by_cases hz : (10 : Int) ^ (18 : Int).toNat ≤ z
      · refine iteB (by simpa using hz) ?_
        refine ⟨_, rfl, _, _, rfl, get_of d3.p (dk_cells _ _ _), .inl ⟨rfl, _, SqL.of d3.l⟩, _, rfl, _, rfl, 2, n, rfl, z, _, rfl, rfl, ?_, q.l, _, _, rfl, rfl, d3.l, ?_, ?_⟩
        · constructor
          · split <;> omega
          · split <;> omega
        · have := d2.n
          simp at this
          rw [List.length_map, sizeLine_eq]
          omega
        · have d4 := d3.lst (cells' := ys ++ [z / (if n > 2 then n else 2)]) (by have := d2.n; simp at this; simp; omega)
          rw [List.map_append] at d4
          refine ⟨_, rfl, .inl ⟨z, rfl, _, rfl, z, n, rfl, rfl, by omega, fin d4 (hmod z).1 (hmod z).2⟩⟩
      · refine iteN (by simpa using hz) ?_
        refine ⟨_, rfl, _, rfl, .inl ⟨z, rfl, z, _, rfl, rfl, (by show (0 : Int) < _; decide), _, _, rfl, rfl, ?_⟩⟩
        refine ⟨_, rfl, _, _, rfl, rfl, .inr ⟨by decide, by decide⟩, _, _, rfl, rfl, .inl ⟨_, rfl, _, _, rfl, rfl, (by show (0 : Int) < _; decide), ?_⟩⟩
        have hx2 : ∀ i : Int, -(2 ^ 64) < i % 2147483647 ∧ i % 2147483647 < 2 ^ 64 := fun i => ⟨by have := Int.emod_nonneg i (b := 2147483647) (by decide); omega, by have := Int.emod_lt_of_pos i (b := 2147483647) (by decide); omega⟩
        refine ⟨_, rfl, _, rfl, _, _, rfl, rfl, .inl (hx2 _), _, rfl, _, _, rfl, get_of d3.p (dk_draws _ _ _), _, _, rfl, rfl, .inl ⟨by decide, by decide⟩, _, _, rfl, rfl, _, _, rfl, rfl, .inl ⟨_, rfl, _, _, rfl, rfl, (by show (0 : Int) < _; decide), ?_⟩⟩
        refine ⟨_, rfl, _, _, rfl, rfl, .inr ⟨by decide, by decide⟩, .inl ⟨_, rfl, _, _, rfl, rfl, (by show (0 : Int) < _; decide), ?_⟩⟩
        exact ⟨_, rfl, _, _, rfl, rfl, ⟨by decide, by decide⟩, .inl ⟨_, rfl, _, rfl, _, n, rfl, rfl, by omega, fin d3 (hmod _).1 (hmod _).2⟩⟩
end
end Z

namespace Z
open PySem PySem.Spec PyProof.Rows L2 DL
def CF : Addr := 44
abbrev s_Ltold : Stmt := top 30
theorem gives {X : Cx} {g : Addr} {cdg : Value} {q : Str} (T : ToldF X.K X.mg "_law_told" "_law_deed" "e" "BadFraction" s_Ltold CF "thing") :
    LamX.GivesTo X ["_law_deed", "e"] "_law_told" (defScope s_Ltold) g cdg (defBody s_Ltold) "_law_deed" q (TTas X.K CF "thing" "told" "fraction") :=
  told_as (s0 := "told") (s1 := "fraction") (en := "e") (e := "BadFraction") (by rfl) T.mgE (by decide) (fun _ => rfl) (by decide +kernel) rfl (by rfl) (by decide) (by decide) T.xf T.no (fun _ => rfl) (fun _ => rfl) (fun _ => rfl) (fun _ => rfl) (fun _ => rfl)
theorem pd_toldZ {X : Cx} {C : Ct} {cc PP : Addr} {k : Nat} {params : Arguments} {body : Expr} {scope : Scope} {tb : XP → TED} {p lpos pos : Pos} (T : ToldF X.K X.mg "_law_told" "_law_deed" "e" "BadFraction" s_Ltold CF "thing") (LF : LamF X.mg X.base C.q.w X.env.qual X.env.code cc PP) (hr : Room k X.A) (hk2 : 2 ≤ k)
    (hg : Gl X "_law_told") (L : LamX.LamS X.env.scope scope) (hdef : defaultsOf params X.env = ([], []))
    (hbind : ∀ (q : Str) (cl : List (Str × Addr)) (pm cv ctv : Value), bindArgs (PySem.W.kla_fn "<lambda>" q params body scope cl pm cv ctv) ⟨[], []⟩ = pure [])
    (hbody : ∀ (A : Around) (outer : List Env) (s : Shared) (H : Hp) (E : XK) (f c' : Addr) (C' : Ct) (px : XP), C'.q = C.q → Room (k - 2) (A.deeper (LamX.lamEnv X scope s.heap.objs.size f c')) → XO (LamX.lamCx X A outer s H E scope f c') C' px (L2.CX X.prog X.w) E →
      PD (LamX.lamCx X A outer s H E scope f c') C' body (tb px)) (hxmo : XM tb) (hmo : ∀ px, MonoE (tb px)) :
    PD X C (.Call (.Name "_law_told" p) [.Lambda params body scope lpos] [] pos) (tTold tb CF "thing" "told" "fraction") := by
  obtain ⟨g, oc, od, kV, doc, pm, an, cdv, ct, osl, h1, h2, h3, h4, h5⟩ := T.ex
  exact pd_told (Ng := ["_law_deed", "e"]) hg h1 h2 h3 h4 h5 T.sc rfl (.inl (by rfl)) (gives T) T.xm LF.tb LF.code LF.mem LF.uni (k := k - 2) (by rw [Nat.sub_add_cancel hk2]; exact hr) L hdef hbind hbody hxmo hmo
end Z

namespace DL
open PySem L2
/-! ### sizes -/
def Sm (e : Nat) (i : Int) : Prop := i.natAbs < 2 ^ e
theorem Sm.le {a b : Nat} {i : Int} (h : Sm a i) (hab : a ≤ b) : Sm b i := Nat.lt_of_lt_of_le h (Nat.pow_le_pow_right (by decide) hab)
theorem Sm.mul {a b : Nat} {i j : Int} (h : Sm a i) (h' : Sm b j) : Sm (a + b) (i * j) := by
  unfold Sm at *
  rw [Int.natAbs_mul, Nat.pow_add]
  exact Nat.mul_lt_mul'' h h'
theorem Sm.add {a : Nat} {i j : Int} (h : Sm a i) (h' : Sm a j) : Sm (a + 1) (i + j) := by
  unfold Sm at *
  have := Int.natAbs_add_le i j
  rw [Nat.pow_succ]
  omega
theorem Sm.neg {a : Nat} {i : Int} (h : Sm a i) : Sm a (-i) := by unfold Sm at *; rwa [Int.natAbs_neg]
theorem Sm.cmul {a b : Nat} {i j : Int} (h : Sm a i) (h' : Sm b j) (hab : a + b < 999998) : CMulW i j :=
  wide_mul (a := a + 1) (b := b + 1) (h.le (Nat.le_succ _)) (h'.le (Nat.le_succ _)) (Nat.succ_pos _) (Nat.succ_pos _) (by omega)
theorem Sm.cdiv {b : Nat} {i j : Int} (h0 : 0 < j) (h : Sm b j) (hb : b < 8999) : CDivW i j := wide_div (b := b + 1) h0 (h.le (Nat.le_succ _)) (Nat.succ_pos _) (by omega)
theorem Sm.zero {a : Nat} : Sm a 0 := by unfold Sm; exact Nat.pow_pos (by decide)
theorem Sm.one {a : Nat} (h : 0 < a) : Sm a 1 := by
  unfold Sm
  have : 2 ^ 1 ≤ 2 ^ a := Nat.pow_le_pow_right (by decide) h
  show 1 < _
  omega
theorem Sm.of {a : Nat} {i : Int} (h : -(2 ^ a) < i) (h' : i < 2 ^ a) : Sm a i := by
  unfold Sm
  have e : ((2 ^ a : Nat) : Int) = (2 : Int) ^ a := by rw [Int.natCast_pow]; rfl
  omega
/-! ### the greatest common divisor -/
def gc (a b : Int) : Int := (Int.gcd a b : Nat)
theorem gc_zero (a : Int) (h : 0 ≤ a) : gc a 0 = a := by unfold gc; rw [Int.gcd_zero_right]; omega
theorem gc_step {a b : Int} (ha : 0 ≤ a) (hb : 0 ≤ b) : gc b (a % b) = gc a b := by
  obtain ⟨m, rfl⟩ := Int.eq_ofNat_of_zero_le ha
  obtain ⟨n, rfl⟩ := Int.eq_ofNat_of_zero_le hb
  unfold gc Int.gcd
  have e : ((m : Int) % (n : Int)).natAbs = m % n := by
    rw [← Int.natCast_emod, Int.natAbs_natCast]
  rw [e, Int.natAbs_natCast, Int.natAbs_natCast, Nat.gcd_comm n, ← Nat.gcd_rec n m, Nat.gcd_comm]
theorem gc_abs (a b : Int) : gc (if a < 0 then -a else a) (if b < 0 then -b else b) = gc a b := by
  unfold gc
  have e : ∀ x : Int, (if x < 0 then -x else x).natAbs = x.natAbs := fun x => by split <;> simp
  unfold Int.gcd
  rw [e, e]
theorem gc_pos {a b : Int} (h : b ≠ 0) : 0 < gc a b := by
  unfold gc
  have := Int.gcd_pos_of_ne_zero_right a h
  omega
theorem gc_le {a b : Int} (h : 0 < b) : gc a b ≤ b := by
  unfold gc
  have := Int.gcd_le_right (a := a) (b := b) (by omega)
  omega
/-- the fraction without a common divisor -/
def rd (t b : Int) : Int × Int := (t / gc t b, b / gc t b)
end DL

namespace Z
open PySem PySem.Spec PyProof.Rows L2 DL


def isWh : D → Bool
  | .int _ => true
  | _ => false
def isFr : D → Bool
  | .tuple [.int _, .int b] => decide (0 < b)
  | _ => false
def F_is_whole : FD := ⟨fun as P _ => ∃ d, as = [.dat d] ∧ P (.bool (isWh d)), fun as P P' Z Z' k _ ⟨d, e, h⟩ => ⟨d, e, k _ h⟩⟩
/-! is_whole -/
abbrev s_is_whole : Stmt := top 4
abbrev n_is_whole : List Str := ["thing"]
theorem sc_is_whole : FnScope n_is_whole ["thing"] (defScope s_is_whole) := ⟨rfl, rfl, rfl, by decide +kernel, rfl, by decide +kernel, by decide +kernel⟩
def t_is_whole (px : XP) : TSD :=
  (sRet (tAndV (dUn (gIsi "int") (tValD 0)) (tNotV (dUn (gIsi "bool") (tValD 0)))))
set_option maxHeartbeats 4000000 in
theorem d_is_whole {G : Around → Prop} {P : Program} {w : World} {K : PySem.W.Frag} {mg : Str → Option Value} {base : Heap} {k : Nat} (B : Blt mg) {f : Addr} {cdv : Value} {A : Around} {outer : List Env} {s : Shared} {H : Hp} {E : XK} {C : Ct} {px : XP}
    (hr : Room k (A.deeper (envOfC "is_whole" (defScope s_is_whole) s.heap.objs.size f cdv))) (hG : G (A.deeper (envOfC "is_whole" (defScope s_is_whole) s.heap.objs.size f cdv))) (hx : XO (cxOf (L2.CX P w) P w K mg base n_is_whole "is_whole" (defScope s_is_whole) f cdv A outer s H E) C px (L2.CX P w) E) :
    PSDs (cxOf (L2.CX P w) P w K mg base n_is_whole "is_whole" (defScope s_is_whole) f cdv A outer s H E) C (defBody s_is_whole) (t_is_whole px) :=
  have nd := sc_is_whole.nd
  (pssd_one (psd_ret (pd_and (pd_isi "int" kits_int (by rfl) B.isinstance (by rfl) B.int (by decide +kernel) (PO.of (pd_var (i := 0)))) (pd_one (pd_not (pd_isi "bool" kits_bool (by rfl) B.isinstance (by rfl) B.bool (by decide +kernel) (PO.of (pd_var (i := 0)))))))))
theorem r_is_whole (px : XP) (as : List DL.Arg) (Q : D → Prop) (h : F_is_whole.run as Q px) : t_is_whole px { nx := fun _ => Q .none, rt := Q } (startD n_is_whole as) := by
  obtain ⟨d, rfl, h⟩ := h
  cases d <;> exact h
def F_is_fraction : FD := ⟨fun as P _ => ∃ d, as = [.dat d] ∧ P (.bool (isFr d)), fun as P P' Z Z' k _ ⟨d, e, h⟩ => ⟨d, e, k _ h⟩⟩
/-! is_fraction -/
abbrev s_is_fraction : Stmt := top 6
abbrev n_is_fraction : List Str := ["thing"]
theorem sc_is_fraction : FnScope n_is_fraction ["thing"] (defScope s_is_fraction) := ⟨rfl, rfl, rfl, by decide +kernel, rfl, by decide +kernel, by decide +kernel⟩
def t_is_fraction (px : XP) : TSD :=
  (sRet (tAndV (dUn (gIsi "tuple") (tValD 0)) (tAndV (dBi (gEqS false) (dUn gLen (tValD 0)) (tCD (.int 2))) (tAndV (tCallD F_is_whole px (aCons (dBi gIx (tValD 0) (tCD (.int 0))) aNil)) (tAndV (tCallD F_is_whole px (aCons (dBi gIx (tValD 0) (tCD (.int 1))) aNil)) (dBi gGt (dBi gIx (tValD 0) (tCD (.int 1))) (tCD (.int 0))))))))
set_option maxHeartbeats 4000000 in
theorem d_is_fraction {G : Around → Prop} {P : Program} {w : World} {K : PySem.W.Frag} {mg : Str → Option Value} {base : Heap} {k : Nat} (B : Blt mg) {f : Addr} {cdv : Value} {A : Around} {outer : List Env} {s : Shared} {H : Hp} {E : XK} {C : Ct} {px : XP}
    (hr : Room k (A.deeper (envOfC "is_fraction" (defScope s_is_fraction) s.heap.objs.size f cdv))) (hG : G (A.deeper (envOfC "is_fraction" (defScope s_is_fraction) s.heap.objs.size f cdv))) (hx : XO (cxOf (L2.CX P w) P w K mg base n_is_fraction "is_fraction" (defScope s_is_fraction) f cdv A outer s H E) C px (L2.CX P w) E) (c_is_whole : Cal G P w K mg base k "is_whole" ["thing"] C.q.w F_is_whole) :
    PSDs (cxOf (L2.CX P w) P w K mg base n_is_fraction "is_fraction" (defScope s_is_fraction) f cdv A outer s H E) C (defBody s_is_fraction) (t_is_fraction px) :=
  have nd := sc_is_fraction.nd
  (pssd_one (psd_ret (pd_and (pd_isi "tuple" kits_tuple (by rfl) B.isinstance (by rfl) B.tuple (by decide +kernel) (PO.of (pd_var (i := 0)))) (pd_and (pd_eqS (PO.of (pd_len (by rfl) B.len (PO.of (pd_var (i := 0))))) (PO.of pd_int)) (pd_and (pd_call c_is_whole hr hG hx (by rfl) (da_cons (pd_ix (PO.of (pd_var (i := 0))) (PO.of pd_int)) da_nil)) (pd_and (pd_call c_is_whole hr hG hx (by rfl) (da_cons (pd_ix (PO.of (pd_var (i := 0))) (PO.of pd_int)) da_nil)) (pd_one (pd_gt (PO.of (pd_ix (PO.of (pd_var (i := 0))) (PO.of pd_int))) (PO.of pd_int)))))))))
theorem r_is_fraction (px : XP) (as : List DL.Arg) (Q : D → Prop) (h : F_is_fraction.run as Q px) : t_is_fraction px { nx := fun _ => Q .none, rt := Q } (startD n_is_fraction as) := by
  obtain ⟨d, rfl, h⟩ := h
  cases d <;> first | exact h | skip
  rename_i ds
  match ds, h with
  | [], h => exact h
  | [x], h =>
    show Q (.bool false)
    have e : isFr (.tuple [x]) = false := by cases x <;> rfl
    rw [e] at h
    exact h
  | x :: y :: z :: r, h =>
    show Q (.bool false)
    have e : isFr (.tuple (x :: y :: z :: r)) = false := by cases x <;> first | rfl | (cases y <;> rfl)
    rw [e] at h
    exact h
  | [a, b], h =>
    refine ⟨a, rfl, a, rfl, ?_⟩
    cases a <;> first | exact h | skip
    refine ⟨b, rfl, b, rfl, ?_⟩
    cases b <;> first | exact h | skip
    exact ⟨_, rfl, h⟩
def F_need_fraction : FD := ⟨fun as P Z => ∃ d, as = [.dat d] ∧ if isFr d = true then P .none else Z CF "thing" d, fun as P P' Z Z' k z ⟨d, e, h⟩ => ⟨d, e, mono_ite h (k _) (z _ _ _)⟩⟩
/-! need_fraction -/
abbrev s_need_fraction : Stmt := top 7
abbrev n_need_fraction : List Str := ["thing"]
theorem sc_need_fraction : FnScope n_need_fraction ["thing"] (defScope s_need_fraction) := ⟨rfl, rfl, rfl, by decide +kernel, rfl, by decide +kernel, by decide +kernel⟩
def t_need_fraction (px : XP) : TSD :=
  (sIf (tNotD (tTestD (tCallD F_is_fraction px (aCons (tValD 0) aNil)))) (sRaise px CF "thing" (tValD 0)) sNext)
set_option maxHeartbeats 4000000 in
theorem d_need_fraction {G : Around → Prop} {P : Program} {w : World} {K : PySem.W.Frag} {mg : Str → Option Value} {base : Heap} {k : Nat} (B : Blt mg) {f : Addr} {cdv : Value} {A : Around} {outer : List Env} {s : Shared} {H : Hp} {E : XK} {C : Ct} {px : XP}
    (hr : Room k (A.deeper (envOfC "need_fraction" (defScope s_need_fraction) s.heap.objs.size f cdv))) (hG : G (A.deeper (envOfC "need_fraction" (defScope s_need_fraction) s.heap.objs.size f cdv))) (hx : XO (cxOf (L2.CX P w) P w K mg base n_need_fraction "need_fraction" (defScope s_need_fraction) f cdv A outer s H E) C px (L2.CX P w) E) (c_is_fraction : Cal G P w K mg base k "is_fraction" ["thing"] C.q.w F_is_fraction) (r_BadFraction : Rs P w K mg base "BadFraction" "thing" CF) (hk : 2 ≤ k) :
    PSDs (cxOf (L2.CX P w) P w K mg base n_need_fraction "need_fraction" (defScope s_need_fraction) f cdv A outer s H E) C (defBody s_need_fraction) (t_need_fraction px) :=
  have nd := sc_need_fraction.nd
  (pssd_one (psd_if (dt_not (dt_val (pd_call c_is_fraction hr hG hx (by rfl) (da_cons (pd_var (i := 0)) da_nil)))) (pssd_one (psd_raise rfl (L2.takes_of rfl rfl rfl rfl) r_BadFraction hr hk hx (by rfl) (pd_var (i := 0)))) pssd_nil))
theorem r_need_fraction (px : XP) (as : List DL.Arg) (Q : D → Prop) (h : F_need_fraction.run as Q px) : t_need_fraction px { nx := fun _ => Q .none, rt := Q } (startD n_need_fraction as) := by
  obtain ⟨d, rfl, h⟩ := h
  refine ⟨d, rfl, ?_⟩
  show (if (!isFr d) = true then _ else _)
  cases e : isFr d with
  | true => rw [e] at h; exact h
  | false => rw [e] at h; exact h
def F_common_divisor : FD := ⟨fun as P _ => ∃ a b : Int, as = [.dat (.int a), .dat (.int b)] ∧ P (.int (gc a b)), fun as P P' Z Z' k _ ⟨a, b, e, h⟩ => ⟨a, b, e, k _ h⟩⟩
/-! common_divisor -/
abbrev s_common_divisor : Stmt := top 8
abbrev n_common_divisor : List Str := ["one", "other"]
theorem sc_common_divisor : FnScope n_common_divisor ["one", "other"] (defScope s_common_divisor) := ⟨rfl, rfl, rfl, by decide +kernel, rfl, by decide +kernel, by decide +kernel⟩
def t_common_divisor (px : XP) : TSD :=
  (sSeq (sPar [0, 1] (mVal (dUn gAbs (tValD 0)) (mVal (dUn gAbs (tValD 1)) mNil)))
    (sSeq (sWhile (tTestD (dBi (gEqS true) (tValD 1) (tCD (.int 0)))) (sPar [0, 1] (mVal (tValD 1) (mVal (dBi gMod (tValD 0) (tValD 1)) mNil))))
    (sRet (tValD 0))))
set_option maxHeartbeats 4000000 in
theorem d_common_divisor {G : Around → Prop} {P : Program} {w : World} {K : PySem.W.Frag} {mg : Str → Option Value} {base : Heap} {k : Nat} (B : Blt mg) {f : Addr} {cdv : Value} {A : Around} {outer : List Env} {s : Shared} {H : Hp} {E : XK} {C : Ct} {px : XP}
    (hr : Room k (A.deeper (envOfC "common_divisor" (defScope s_common_divisor) s.heap.objs.size f cdv))) (hG : G (A.deeper (envOfC "common_divisor" (defScope s_common_divisor) s.heap.objs.size f cdv))) (hx : XO (cxOf (L2.CX P w) P w K mg base n_common_divisor "common_divisor" (defScope s_common_divisor) f cdv A outer s H E) C px (L2.CX P w) E) :
    PSDs (cxOf (L2.CX P w) P w K mg base n_common_divisor "common_divisor" (defScope s_common_divisor) f cdv A outer s H E) C (defBody s_common_divisor) (t_common_divisor px) :=
  have nd := sc_common_divisor.nd
  (pssd_cons (psd_par rfl nd (dm_val (pd_abs (by rfl) B.abs (PO.of (pd_var (i := 0)))) (dm_val (pd_abs (by rfl) B.abs (PO.of (pd_var (i := 1)))) dm_nil)))
    (pssd_cons (psd_while own_of (dt_neS (PO.of (pd_var (i := 1))) (PO.of pd_int)) (pssd_one (psd_par rfl nd (dm_val (pd_var (i := 1)) (dm_val (pd_mod (PO.of (pd_var (i := 0))) (PO.of (pd_var (i := 1)))) dm_nil)))))
    (pssd_one (psd_ret (pd_var (i := 0))))))
theorem r_common_divisor (px : XP) (as : List DL.Arg) (Q : D → Prop) (h : F_common_divisor.run as Q px) : t_common_divisor px { nx := fun _ => Q .none, rt := Q } (startD n_common_divisor as) := by
  obtain ⟨a, b, rfl, h⟩ := h
  refine ⟨rfl, ?_⟩
  rw [← gc_abs] at h
  have ha : 0 ≤ (if a < 0 then -a else a) := by split <;> omega
  have hb : 0 ≤ (if b < 0 then -b else b) := by split <;> omega
  refine ⟨fun m ρ => ∃ x y : Int, 0 ≤ x ∧ 0 ≤ y ∧ m = y.toNat ∧ ρ = [.val (.int x), .val (.int y)] ∧ gc x y = gc (if a < 0 then -a else a) (if b < 0 then -b else b), ⟨_, _, _, ha, hb, rfl, rfl, rfl⟩, ?_⟩
  rintro m ρ ⟨x, y, hx, hy, rfl, rfl, hg⟩
  show (if (!decide (y = 0)) = true then _ else _)
  by_cases e : y = 0
  · rw [if_neg (by simp [e])]
    subst e
    rw [gc_zero x hx] at hg
    show Q (.int x)
    rw [hg]
    exact h
  · rw [if_pos (by simp [e])]
    have hp : 0 < y := by omega
    refine ⟨hp, rfl, (x % y).toNat, ?_, y, x % y, hy, Int.emod_nonneg _ e, rfl, rfl, by rw [gc_step hx hy, hg]⟩
    have h1 := Int.emod_lt_of_pos x hp
    have h2 := Int.emod_nonneg x e
    omega
/-- a fraction's data -/
def fr (p : Int × Int) : D := .tuple [.int p.1, .int p.2]
def F_reduced : FD := ⟨fun as P _ => ∃ t b : Int, as = [.dat (.int t), .dat (.int b)] ∧ 0 < b ∧ Sm 4000 b ∧ P (fr (rd t b)), fun as P P' Z Z' k _ ⟨t, b, e, h1, h2, h⟩ => ⟨t, b, e, h1, h2, k _ h⟩⟩
/-! reduced -/
abbrev s_reduced : Stmt := top 9
abbrev n_reduced : List Str := ["top", "bottom", "common"]
theorem sc_reduced : FnScope n_reduced ["top", "bottom"] (defScope s_reduced) := ⟨rfl, rfl, rfl, by decide +kernel, rfl, by decide +kernel, by decide +kernel⟩
def t_reduced (px : XP) : TSD :=
  (sSeq (sSet 2 (tCallD F_common_divisor px (aCons (tValD 0) (aCons (tValD 1) aNil))))
    (sSeq (sSet 2 (tIfD (tTestD (dBi gGt (tValD 1) (tCD (.int 0)))) (tValD 2) (dUn gNeg (tValD 2))))
    (sRet (dTup (lCons (dBi gDiv (tValD 0) (tValD 2)) (lCons (dBi gDiv (tValD 1) (tValD 2)) lNil))))))
set_option maxHeartbeats 4000000 in
theorem d_reduced {G : Around → Prop} {P : Program} {w : World} {K : PySem.W.Frag} {mg : Str → Option Value} {base : Heap} {k : Nat} (B : Blt mg) {f : Addr} {cdv : Value} {A : Around} {outer : List Env} {s : Shared} {H : Hp} {E : XK} {C : Ct} {px : XP}
    (hr : Room k (A.deeper (envOfC "reduced" (defScope s_reduced) s.heap.objs.size f cdv))) (hG : G (A.deeper (envOfC "reduced" (defScope s_reduced) s.heap.objs.size f cdv))) (hx : XO (cxOf (L2.CX P w) P w K mg base n_reduced "reduced" (defScope s_reduced) f cdv A outer s H E) C px (L2.CX P w) E) (c_common_divisor : Cal G P w K mg base k "common_divisor" ["one", "other"] C.q.w F_common_divisor) :
    PSDs (cxOf (L2.CX P w) P w K mg base n_reduced "reduced" (defScope s_reduced) f cdv A outer s H E) C (defBody s_reduced) (t_reduced px) :=
  have nd := sc_reduced.nd
  (pssd_cons (psd_set 2 nd (pd_call c_common_divisor hr hG hx (by rfl) (da_cons (pd_var (i := 0)) (da_cons (pd_var (i := 1)) da_nil))))
    (pssd_cons (psd_set 2 nd (pd_ifE (dt_gt (PO.of (pd_var (i := 1))) (PO.of pd_int)) (pd_var (i := 2)) (pd_neg (PO.of (pd_var (i := 2))))))
    (pssd_one (psd_ret (pd_tup (ds_cons (pd_div (PO.of (pd_var (i := 0))) (PO.of (pd_var (i := 2)))) (ds_cons (pd_div (PO.of (pd_var (i := 1))) (PO.of (pd_var (i := 2)))) ds_nil)))))))
theorem r_reduced (px : XP) (as : List DL.Arg) (Q : D → Prop) (h : F_reduced.run as Q px) : t_reduced px { nx := fun _ => Q .none, rt := Q } (startD n_reduced as) := by
  obtain ⟨t, b, rfl, hb, hs, h⟩ := h
  refine ⟨t, b, rfl, ?_⟩
  show (if decide (0 < b) = true then _ else _)
  rw [if_pos (by simpa using hb)]
  have hg : 0 < gc t b := gc_pos (by omega)
  have hgs : Sm 4000 (gc t b) := wide_le (by omega) (gc_le hb) hs
  have hc : ∀ x, CDivW x (gc t b) := fun x => hgs.cdiv hg (by decide)
  exact ⟨hc _, hc _, (by show 2 ≤ sizeLine; decide), h⟩
/-! poly_value -/
/-- one step of Horner's rule over the coefficients from the last one on: value times bottom ** steps, bottom ** steps -/
def hst (a b : Int) (s : Int × Int) (c : Int) : Int × Int := (s.1 * a + c * s.2, s.2 * b)
def hor (a b : Int) (cs : List Int) : Int × Int := cs.foldl (hst a b) (0, 1)
/-- a poly, a fraction of small size -/
structure PolyOk (ps : List Int) : Prop where
  n : ps.length ≤ 13
  c : ∀ c ∈ ps, Sm 70 c
structure FrOk (a b : Int) : Prop where
  sa : Sm 20 a
  sb : Sm 20 b
  sp : 0 < b
/-- what a def does with a fraction, and that it raises for another thing -/
structure OnFr (P : Int → Int → Prop) (R : Prop) (d : D) : Prop where
  no : isFr d = false → R
  yes : ∀ a b, d = .tuple [.int a, .int b] → 0 < b → FrOk a b ∧ P a b
theorem onFr_yes {P : Int → Int → Prop} {R : Prop} {d : D} (h : OnFr P R d) (e : isFr d = true) : ∃ a b, d = .tuple [.int a, .int b] ∧ FrOk a b ∧ P a b := by
  unfold isFr at e
  split at e
  · rename_i a b
    have hb : 0 < b := by simpa using e
    exact ⟨a, b, rfl, h.yes a b rfl hb⟩
  · cases e
theorem onFr_no {P : Int → Int → Prop} {R : Prop} {d : D} (h : OnFr P R d) (e : isFr d = false) : R := h.no e
theorem onFr_mono {P P' : Int → Int → Prop} {R R' : Prop} {d : D} (h : OnFr P R d) (k : ∀ a b, P a b → P' a b) (r : R → R') : OnFr P' R' d :=
  ⟨fun e => r (h.no e), fun a b e hb => ⟨(h.yes a b e hb).1, k _ _ (h.yes a b e hb).2⟩⟩
def iTup (ns : List Int) : D := .tuple (ns.map .int)
def F_poly_value : FD := ⟨fun as P Z => ∃ (ps : List Int) (d : D), as = [.dat (iTup ps), .dat d] ∧ PolyOk ps ∧ OnFr (fun a b => P (fr (rd ((hor a b ps.reverse).1 * b) (hor a b ps.reverse).2))) (Z CF "thing" d) d,
  fun as P P' Z Z' k z ⟨ps, d, e, h1, h⟩ => ⟨ps, d, e, h1, onFr_mono h (fun _ _ => k _) (z _ _ _)⟩⟩
/-! poly_value -/
abbrev s_poly_value : Stmt := top 11
abbrev n_poly_value : List Str := ["poly", "number", "top", "bottom", "found", "power", "coefficient"]
theorem sc_poly_value : FnScope n_poly_value ["poly", "number"] (defScope s_poly_value) := ⟨rfl, rfl, rfl, by decide +kernel, rfl, by decide +kernel, by decide +kernel⟩
def t_poly_value (px : XP) : TSD :=
  (sSeq (sDrop (tCallD F_need_fraction px (aCons (tValD 1) aNil)))
    (sSeq (sAsg (.tup [2, 3]) (tValD 1))
    (sSeq (sAsg (.tup [4, 5]) (dTup (lCons (tCD (.int 0)) (lCons (tCD (.int 1)) lNil))))
    (sSeq (sFor (iT (dUn gRevT (tValD 0))) (.nm 6) (sSeq (sSet 4 (dBi gAdd (dBi gMul (tValD 4) (tValD 2)) (dBi gMul (tValD 6) (tValD 5))))
    (sSet 5 (dBi gMul (tValD 5) (tValD 3)))))
    (sRet (tCallD F_reduced px (aCons (dBi gMul (tValD 4) (tValD 3)) (aCons (tValD 5) aNil))))))))
set_option maxHeartbeats 4000000 in
theorem d_poly_value {G : Around → Prop} {P : Program} {w : World} {K : PySem.W.Frag} {mg : Str → Option Value} {base : Heap} {k : Nat} (B : Blt mg) {f : Addr} {cdv : Value} {A : Around} {outer : List Env} {s : Shared} {H : Hp} {E : XK} {C : Ct} {px : XP}
    (hr : Room k (A.deeper (envOfC "poly_value" (defScope s_poly_value) s.heap.objs.size f cdv))) (hG : G (A.deeper (envOfC "poly_value" (defScope s_poly_value) s.heap.objs.size f cdv))) (hx : XO (cxOf (L2.CX P w) P w K mg base n_poly_value "poly_value" (defScope s_poly_value) f cdv A outer s H E) C px (L2.CX P w) E) (c_need_fraction : Cal G P w K mg base k "need_fraction" ["thing"] C.q.w F_need_fraction) (c_reduced : Cal G P w K mg base k "reduced" ["top", "bottom"] C.q.w F_reduced) :
    PSDs (cxOf (L2.CX P w) P w K mg base n_poly_value "poly_value" (defScope s_poly_value) f cdv A outer s H E) C (defBody s_poly_value) (t_poly_value px) :=
  have nd := sc_poly_value.nd
  (pssd_cons (psd_expr (pd_call c_need_fraction hr hG hx (by rfl) (da_cons (pd_var (i := 1)) da_nil)))
    (pssd_cons (psd_asg (.tup [2, 3]) (pd_var (i := 1)) (pg_tup rfl (pgs_cons (pg_name (i := 2) nd rfl (.inl rfl)) (pgs_cons (pg_name (i := 3) nd rfl (.inl rfl)) pgs_nil))))
    (pssd_cons (psd_asg (.tup [4, 5]) (pd_tup (ds_cons pd_int (ds_cons pd_int ds_nil))) (pg_tup rfl (pgs_cons (pg_name (i := 4) nd rfl (.inl rfl)) (pgs_cons (pg_name (i := 5) nd rfl (.inl rfl)) pgs_nil))))
    (pssd_cons (psd_for (.nm 6) own_of rfl (di_tup (pd_revT (PO.of (pd_var (i := 0))))) (pg_name (i := 6) nd rfl (.inl rfl)) (pssd_cons (psd_set 4 nd (pd_add (PO.of (pd_mul (PO.of (pd_var (i := 4))) (PO.of (pd_var (i := 2))))) (PO.of (pd_mul (PO.of (pd_var (i := 6))) (PO.of (pd_var (i := 5)))))))
    (pssd_one (psd_set 5 nd (pd_mul (PO.of (pd_var (i := 5))) (PO.of (pd_var (i := 3))))))))
    (pssd_one (psd_ret (pd_call c_reduced hr hG hx (by rfl) (da_cons (pd_mul (PO.of (pd_var (i := 4))) (PO.of (pd_var (i := 3)))) (da_cons (pd_var (i := 5)) da_nil)))))))))
theorem hor_sm {a b : Int} (hf : FrOk a b) : ∀ (cs : List Int) (n : Nat) (s : Int × Int), (∀ c ∈ cs, Sm 70 c) → Sm (72 + 22 * n) s.1 → Sm (1 + 20 * n) s.2 → Sm (72 + 22 * (n + cs.length)) (cs.foldl (hst a b) s).1 ∧ Sm (1 + 20 * (n + cs.length)) (cs.foldl (hst a b) s).2
  | [], n, s, _, h1, h2 => ⟨h1, h2⟩
  | c :: cs, n, s, hc, h1, h2 => by
    have h3 : Sm (72 + 22 * (n + 1)) (hst a b s c).1 := by
      have e1 : Sm (72 + 22 * n + 20) (s.1 * a) := h1.mul hf.sa
      have e2 : Sm (70 + (1 + 20 * n)) (c * s.2) := (hc c List.mem_cons_self).mul h2
      exact ((e1.le (b := 93 + 22 * n) (by omega)).add (e2.le (b := 93 + 22 * n) (by omega))).le (by omega)
    have h4 : Sm (1 + 20 * (n + 1)) (hst a b s c).2 := (h2.mul hf.sb).le (by omega)
    have := hor_sm hf cs (n + 1) (hst a b s c) (fun x hx => hc x (List.mem_cons_of_mem _ hx)) h3 h4
    rw [List.foldl_cons, List.length_cons]
    rw [show n + (cs.length + 1) = n + 1 + cs.length by omega]
    exact this
theorem hor_pos {a b : Int} (hb : 0 < b) : ∀ (cs : List Int) (s : Int × Int), 0 < s.2 → 0 < (cs.foldl (hst a b) s).2
  | [], s, h => h
  | c :: cs, s, h => hor_pos hb cs (hst a b s c) (Int.mul_pos h hb)
theorem loop_value {D : EndsD} {a b : Int} {o1 o2 : Slot} (hf : FrOk a b) : ∀ (cs : List Int) (n : Nat) (s : Int × Int) (o : Slot), n + cs.length ≤ 13 → (∀ c ∈ cs, Sm 70 c) → Sm (72 + 22 * n) s.1 → Sm (1 + 20 * n) s.2 →
    (∀ o', D.nx [o1, o2, .val (.int a), .val (.int b), .val (.int (cs.foldl (hst a b) s).1), .val (.int (cs.foldl (hst a b) s).2), o']) →
    forD (.nm 6) (sSeq (sSet 4 (dBi gAdd (dBi gMul (tValD 4) (tValD 2)) (dBi gMul (tValD 6) (tValD 5)))) (sSet 5 (dBi gMul (tValD 5) (tValD 3)))) D (cs.map .int) [o1, o2, .val (.int a), .val (.int b), .val (.int s.1), .val (.int s.2), o]
  | [], n, s, o, _, _, _, _, k => k o
  | c :: cs, n, s, o, hn, hc, h1, h2, k => by
    have hn' : n + (cs.length + 1) ≤ 13 := hn
    have e1 := h1.mul hf.sa
    have c0 := hc c List.mem_cons_self
    have h3 : Sm (72 + 22 * (n + 1)) (hst a b s c).1 := by
      have e2 : Sm (70 + (1 + 20 * n)) (c * s.2) := c0.mul h2
      exact ((e1.le (b := 93 + 22 * n) (by omega)).add (e2.le (b := 93 + 22 * n) (by omega))).le (by omega)
    have h4 : Sm (1 + 20 * (n + 1)) (hst a b s c).2 := (h2.mul hf.sb).le (by omega)
    refine ⟨h1.cmul hf.sa (by omega), c0.cmul h2 (by omega), h2.cmul hf.sb (by omega), ?_⟩
    exact loop_value hf cs (n + 1) (hst a b s c) _ (by omega) (fun x hx => hc x (List.mem_cons_of_mem _ hx)) h3 h4 k
theorem r_poly_value (px : XP) (as : List DL.Arg) (Q : D → Prop) (h : F_poly_value.run as Q px) : t_poly_value px { nx := fun _ => Q .none, rt := Q } (startD n_poly_value as) := by
  obtain ⟨ps, d, rfl, hp, h⟩ := h
  refine ⟨d, rfl, ?_⟩
  cases e : isFr d with
  | false => exact onFr_no h e
  | true =>
    obtain ⟨a, b, rfl, hf, h⟩ := onFr_yes h e
    rw [if_pos rfl]
    refine ⟨rfl, (by show 2 ≤ sizeLine; decide), rfl, ?_⟩
    show forD (.nm 6) _ _ (ps.map .int).reverse _
    rw [← List.map_reverse]
    refine loop_value hf ps.reverse 0 (0, 1) _ (by rw [List.length_reverse]; have := hp.n; omega) (fun c hc => hp.c c (List.mem_reverse.mp hc)) Sm.zero (Sm.one (by decide)) fun o' => ?_
    obtain ⟨s1, s2⟩ := hor_sm hf ps.reverse 0 (0, 1) (fun c hc => hp.c c (List.mem_reverse.mp hc)) Sm.zero (Sm.one (by decide))
    have hl : ps.reverse.length ≤ 13 := by rw [List.length_reverse]; exact hp.n
    exact ⟨s1.cmul hf.sb (by omega), _, _, rfl, hor_pos hf.sp _ _ (by decide), s2.le (by omega), h⟩
end Z

namespace Z
open PySem PySem.Spec PyProof.Rows L2 DL
/-! ### lists of ints under loops by index -/
theorem rangeD_succ (lo c : Int) (n : Nat) : rangeD lo c (n + 1) = .int lo :: rangeD (lo + c) c n := by
  unfold rangeD
  rw [List.range_succ_eq_map, List.map_cons, List.map_map]
  congr 1
  · simp
  · apply List.map_congr_left
    intro i _
    show PyData.int _ = PyData.int _
    congr 1
    show lo + ((i + 1 : Nat) : Int) * c = lo + c + (i : Int) * c
    rw [Int.natCast_add, Int.add_mul]
    simp
    omega
theorem at_mid (L : List D) (x : D) (r : List D) : L2.atI (L ++ x :: r) (L.length : Int) = some x := L2.atI_nat (by simp)
theorem at_mid1 (L : List D) (x y : D) (r : List D) : L2.atI (L ++ x :: y :: r) ((L.length : Int) + 1) = some y := by
  have : L2.atI (L ++ x :: y :: r) ((L.length + 1 : Nat) : Int) = some y := L2.atI_nat (by simp)
  exact this
theorem ix_mid (L : List D) (x : D) (r : List D) : L2.ixN (L ++ x :: r).length (L.length : Int) = some L.length := by
  unfold L2.ixN
  rw [if_pos (by omega), if_pos (by simp; omega)]
  simp
theorem set_mid (L : List D) (x y : D) (r : List D) : (L ++ x :: r).set L.length y = L ++ y :: r := by simp
def il (ns : List Int) : List D := ns.map .int
theorem il_app (a b : List Int) : il (a ++ b) = il a ++ il b := List.map_append
theorem il_len (a : List Int) : (il a).length = a.length := List.length_map _
/-! scaling -/
def scl (b : Int) : List Int → Int → List Int → List Int × Int
  | [], w, l => (l, w)
  | c :: rs, w, l => scl b rs (w * b) (c * w :: l)
def scf (b : Int) (m : Nat) : List Int → List Int
  | [] => []
  | c :: cs => c * b ^ (cs.length + m) :: scf b m cs
theorem scf_snoc (b : Int) (m : Nat) (c : Int) : ∀ cs : List Int, scf b m (cs ++ [c]) = scf b (m + 1) cs ++ [c * b ^ m]
  | [] => by simp [scf]
  | d :: cs => by
    show d * b ^ ((cs ++ [c]).length + m) :: scf b m (cs ++ [c]) = _
    rw [scf_snoc b m c cs, List.length_append]
    show _ = d * b ^ (cs.length + (m + 1)) :: (scf b (m + 1) cs ++ [c * b ^ m])
    congr 3
    simp
    omega
theorem scl_eq (b : Int) : ∀ (rs : List Int) (m : Nat) (l : List Int), scl b rs (b ^ m) l = (scf b m rs.reverse ++ l, b ^ (m + rs.length))
  | [], m, l => rfl
  | c :: rs, m, l => by
    show scl b rs (b ^ m * b) (c * b ^ m :: l) = _
    rw [← Int.pow_succ, scl_eq b rs (m + 1), List.reverse_cons, scf_snoc, List.length_cons]
    simp
    congr 1
    omega
theorem pow_sm {b : Int} (h : Sm 20 b) : ∀ m : Nat, Sm (1 + 20 * m) (b ^ m)
  | 0 => by rw [Int.pow_zero]; exact Sm.one (by decide)
  | m + 1 => by rw [Int.pow_succ]; exact ((pow_sm h m).mul h).le (by omega)
theorem scf_sm {b : Int} (h : Sm 20 b) : ∀ (cs : List Int), cs.length ≤ 13 → (∀ c ∈ cs, Sm 70 c) → ∀ x ∈ scf b 0 cs, Sm 340 x
  | [], _, _, x, hx => by cases hx
  | c :: cs, hl, hc, x, hx => by
    have hl' : cs.length + 1 ≤ 13 := hl
    rcases List.mem_cons.mp hx with rfl | hx
    · exact ((hc c List.mem_cons_self).mul (pow_sm h (cs.length + 0))).le (by omega)
    · exact scf_sm h cs (by omega) (fun y hy => hc y (List.mem_cons_of_mem _ hy)) x hx
theorem scf_len (b : Int) (m : Nat) : ∀ cs : List Int, (scf b m cs).length = cs.length
  | [] => rfl
  | c :: cs => by simp [scf, scf_len b m cs]
/-! moving: one pass, all passes -/
def hrn (a : Int) : List Int → List Int → List Int
  | r :: rs, z :: l => hrn a rs ((r + a * z) :: z :: l)
  | _, l => l
def shf (a : Int) : Nat → List Int → List Int
  | 0, l => l
  | n + 1, l => match l.reverse with
    | [] => []
    | z :: rs => match hrn a rs [z] with
      | [] => []
      | y :: ys => y :: shf a n ys
theorem hrn_len (a : Int) : ∀ (rs l : List Int), l ≠ [] → (hrn a rs l).length = rs.length + l.length
  | [], l, _ => by cases l <;> simp [hrn]
  | r :: rs, [], h => absurd rfl h
  | r :: rs, z :: l, _ => by
    show (hrn a rs ((r + a * z) :: z :: l)).length = _
    rw [hrn_len a rs _ (List.cons_ne_nil _ _)]
    simp
    omega
theorem hrn_sm {a : Int} (ha : Sm 20 a) {e : Nat} : ∀ (rs l : List Int) (j : Nat), (∀ x ∈ rs, Sm e x) → (∀ x ∈ l, Sm (e + 21 * j) x) → ∀ x ∈ hrn a rs l, Sm (e + 21 * (j + rs.length)) x
  | [], l, j, _, hl, x, hx => by cases l <;> exact (hl x hx).le (by simp)
  | r :: rs, [], j, _, hl, x, hx => by cases hx
  | r :: rs, z :: l, j, hr, hl, x, hx => by
    have hn : Sm (e + 21 * (j + 1)) (r + a * z) := by
      have e1 : Sm (e + 21 * j + 20) r := (hr r List.mem_cons_self).le (by omega)
      have e2 : Sm (20 + (e + 21 * j)) (a * z) := ha.mul (hl z List.mem_cons_self)
      exact (e1.add (e2.le (by omega))).le (by omega)
    have := hrn_sm ha rs ((r + a * z) :: z :: l) (j + 1) (fun y hy => hr y (List.mem_cons_of_mem _ hy)) (fun y hy => by
      rcases List.mem_cons.mp hy with rfl | hy
      · exact hn
      · exact (hl y hy).le (by omega)) x hx
    rw [List.length_cons]
    exact this.le (by omega)
/-! ### the two loops of moved_tops -/
theorem loop_scale {D : EndsD} {a b : Int} {o0 o1 o7 : Slot} (hf : FrOk a b) : ∀ (rs : List Int) (m : Nat) (l : List Int) (o : Slot), m + rs.length ≤ 13 → (∀ c ∈ rs, Sm 70 c) → m + rs.length ≤ 13 →
    (∀ o', D.nx [o0, o1, .val (.int a), .val (.int b), .own (il (scl b rs (b ^ m) l).1), .val (.int (b ^ (m + rs.length))), o', o7]) →
    forD (.nm 6) (sSeq (sStore 4 (dBi gMul (dBi gIx (tOwnD 4) (tValD 6)) (tValD 5)) (tValD 6)) (sSet 5 (dBi gMul (tValD 5) (tValD 3)))) D (rangeD ((rs.length : Int) - 1) (-1) rs.length)
      [o0, o1, .val (.int a), .val (.int b), .own (il (rs.reverse ++ l)), .val (.int (b ^ m)), o, o7]
  | [], m, l, o, _, _, _, k => k o
  | c :: rs, m, l, o, hm, hc, hm2, k => by
    have hm' : m + (rs.length + 1) ≤ 13 := hm
    have e0 : il ((c :: rs).reverse ++ l) = il rs.reverse ++ .int c :: il l := by
      rw [List.reverse_cons, List.append_assoc, il_app]
      rfl
    have e1 : ((rs.length + 1 : Nat) : Int) - 1 = (il rs.reverse).length := by rw [il_len, List.length_reverse]; omega
    show forD _ _ _ (rangeD (((rs.length + 1 : Nat) : Int) - 1) (-1) (rs.length + 1)) _
    rw [rangeD_succ, e0, e1]
    have c1 : CMulW c (b ^ m) := (hc c List.mem_cons_self).cmul (pow_sm hf.sb m) (by omega)
    have c2 : CMulW (b ^ m) b := (pow_sm hf.sb m).cmul hf.sb (by omega)
    refine ⟨.int c, at_mid _ _ _, c1, _, ix_mid _ _ _, c2, ?_⟩
    rw [set_mid]
    have e2 : il rs.reverse ++ PyData.int (c * b ^ m) :: il l = il (rs.reverse ++ (c * b ^ m) :: l) := by rw [il_app]; rfl
    have e3 : ((il rs.reverse).length : Int) + -1 = (rs.length : Int) - 1 := by rw [il_len, List.length_reverse]; omega
    have e4 : b ^ m * b = b ^ (m + 1) := (Int.pow_succ b m).symm
    rw [e2, e3]
    have ih := loop_scale (D := D) (o0 := o0) (o1 := o1) (o7 := o7) hf rs (m + 1) (c * b ^ m :: l) (.val (.int ((il rs.reverse).length : Int))) (by omega) (fun x hx => hc x (List.mem_cons_of_mem _ hx)) (by omega) (fun o' => by
      have := k o'
      rw [List.length_cons] at this
      have e5 : scl b (c :: rs) (b ^ m) l = scl b rs (b ^ (m + 1)) (c * b ^ m :: l) := by rw [← e4]; rfl
      rw [e5] at this
      rw [show m + 1 + rs.length = m + (rs.length + 1) by omega]
      exact this)
    rw [← e4] at ih
    exact ih
theorem shf_step {a z y : Int} {l rs ys : List Int} {m : Nat} (hr : l.reverse = z :: rs) (hy : hrn a rs [z] = y :: ys) : shf a (m + 1) l = y :: shf a m ys := by
  show (match l.reverse with
    | [] => []
    | z :: rs => match hrn a rs [z] with
      | [] => []
      | y :: ys => y :: shf a m ys) = _
  rw [hr]
  show (match hrn a rs [z] with
      | [] => []
      | y :: ys => y :: shf a m ys) = _
  rw [hy]
theorem loop_hrn {D : EndsD} {a : Int} {o0 o1 o3 o5 o7 : Slot} (ha : Sm 20 a) (pre : List Int) {e : Nat} : ∀ (rs : List Int) (z : Int) (l : List Int) (j : Nat) (o : Slot), (∀ x ∈ rs, Sm e x) → (∀ x ∈ z :: l, Sm (e + 21 * j) x) → e + 21 * (j + rs.length) < 900000 →
    (∀ o', D.nx [o0, o1, .val (.int a), o3, .own (il (pre ++ hrn a rs (z :: l))), o5, o', o7]) →
    forD (.nm 6) (sStore 4 (dBi gAdd (dBi gIx (tOwnD 4) (tValD 6)) (dBi gMul (tValD 2) (dBi gIx (tOwnD 4) (dBi gAdd (tValD 6) (tCD (.int 1)))))) (tValD 6)) D (rangeD ((pre.length : Int) + rs.length - 1) (-1) rs.length)
      [o0, o1, .val (.int a), o3, .own (il (pre ++ (rs.reverse ++ z :: l))), o5, o, o7]
  | [], z, l, j, o, _, _, _, k => k o
  | r :: rs, z, l, j, o, hr, hl, hb, k => by
    have hb' : e + 21 * (j + (rs.length + 1)) < 900000 := hb
    have e0 : il (pre ++ ((r :: rs).reverse ++ z :: l)) = il (pre ++ rs.reverse) ++ .int r :: .int z :: il l := by
      rw [List.reverse_cons, List.append_assoc, ← List.append_assoc, il_app]
      rfl
    have e1 : (pre.length : Int) + ((rs.length + 1 : Nat) : Int) - 1 = (il (pre ++ rs.reverse)).length := by rw [il_len, List.length_append, List.length_reverse]; omega
    show forD _ _ _ (rangeD ((pre.length : Int) + ((rs.length + 1 : Nat) : Int) - 1) (-1) (rs.length + 1)) _
    rw [rangeD_succ, e0, e1]
    have hz := hl z List.mem_cons_self
    refine ⟨.int r, at_mid _ _ _, .int z, at_mid1 _ _ _ _, ha.cmul hz (by omega), _, ix_mid _ _ _, ?_⟩
    rw [set_mid]
    have hn : Sm (e + 21 * (j + 1)) (r + a * z) := by
      have q1 : Sm (e + 21 * j + 20) r := (hr r List.mem_cons_self).le (by omega)
      exact (q1.add ((ha.mul hz).le (by omega))).le (by omega)
    have e2 : il (pre ++ rs.reverse) ++ PyData.int (r + a * z) :: .int z :: il l = il (pre ++ (rs.reverse ++ (r + a * z) :: z :: l)) := by unfold il; simp
    have e3 : ((il (pre ++ rs.reverse)).length : Int) + -1 = (pre.length : Int) + rs.length - 1 := by rw [il_len, List.length_append, List.length_reverse]; omega
    rw [e2, e3]
    exact loop_hrn ha pre rs (r + a * z) (z :: l) (j + 1) _ (fun x hx => hr x (List.mem_cons_of_mem _ hx)) (fun x hx => by
      rcases List.mem_cons.mp hx with rfl | hx
      · exact hn
      · exact (hl x hx).le (by omega)) (by omega) k
theorem loop_shf {D : EndsD} {a : Int} {o0 o1 o3 o5 : Slot} (ha : Sm 20 a) : ∀ (m : Nat) (l pre : List Int) (e : Nat) (o o' : Slot), l.length = m → pre.length + m ≤ 13 → (∀ x ∈ l, Sm e x) → e + 273 * m < 9000 →
    (∀ o o', D.nx [o0, o1, .val (.int a), o3, .own (il (pre ++ shf a m l)), o5, o, o']) →
    forD (.nm 7) (sFor (iR3 (dBi gSub (dUn gLen (tOwnD 4)) (tCD (.int 2))) (dBi gSub (tValD 7) (tCD (.int 1))) (dUn gNeg (tCD (.int 1)))) (.nm 6) (sStore 4 (dBi gAdd (dBi gIx (tOwnD 4) (tValD 6)) (dBi gMul (tValD 2) (dBi gIx (tOwnD 4) (dBi gAdd (tValD 6) (tCD (.int 1)))))) (tValD 6))) D
      (rangeD (pre.length : Int) 1 m) [o0, o1, .val (.int a), o3, .own (il (pre ++ l)), o5, o, o']
  | 0, l, pre, e, o, o', hl, hn, hs, hb, k => by
    have : l = [] := List.length_eq_zero_iff.mp hl
    subst this
    exact k o o'
  | m + 1, l, pre, e, o, o', hl, hn, hs, hb, k => by
    rw [rangeD_succ]
    cases hr : l.reverse with
    | nil =>
      rw [← List.length_reverse, hr] at hl
      cases hl
    | cons z rs =>
      have el : l = rs.reverse ++ [z] := by
        have := congrArg List.reverse hr
        rw [List.reverse_reverse, List.reverse_cons] at this
        exact this
      have hrl : rs.length = m := by
        rw [el, List.length_append, List.length_reverse] at hl
        simpa using hl
      have hlen : ((il (pre ++ l)).length : Int) = (pre.length : Int) + m + 1 := by rw [il_len, List.length_append, hl]; omega
      refine ⟨m, ?_, ?_⟩
      · have q := RgC.neg (i := ((il (pre ++ l)).length : Int) - 2) (j := (pre.length : Int) - 1) (by omega) (by omega) (by omega) (by omega)
        have e1 : (((il (pre ++ l)).length : Int) - 2 - ((pre.length : Int) - 1)).toNat = m := by omega
        rw [e1] at q
        exact q
      · have e2 : ((il (pre ++ l)).length : Int) - 2 = (pre.length : Int) + rs.length - 1 := by omega
        show forD _ _ _ (rangeD (((il (pre ++ l)).length : Int) - 2) (-1) m) _
        rw [e2, el, ← hrl]
        have hs' : ∀ x ∈ rs, Sm e x := fun x hx => hs x (by rw [el]; exact List.mem_append_left _ (List.mem_reverse.mpr hx))
        have hz : Sm e z := hs z (by rw [el]; simp)
        have hh := hrn_sm ha (e := e) rs [z] 0 hs' (fun x hx => by rw [List.mem_singleton.mp hx]; exact hz)
        refine loop_hrn ha pre rs z [] 0 _ hs' (fun x hx => by rw [List.mem_singleton.mp hx]; exact hz) (by omega) fun o2 => ?_
        have hlh := hrn_len a rs [z] (List.cons_ne_nil _ _)
        cases hy : hrn a rs [z] with
        | nil =>
          rw [hy] at hlh
          simp at hlh
        | cons y ys =>
          rw [hy] at hh hlh
          have hyl : ys.length = m := by simp at hlh; omega
          have e3 : shf a (m + 1) l = y :: shf a m ys := shf_step hr hy
          have e4 : pre ++ y :: ys = (pre ++ [y]) ++ ys := by simp
          have e5 : (pre.length : Int) + 1 = ((pre ++ [y]).length : Int) := by simp
          rw [e4, e5]
          rw [hrl]
          refine loop_shf ha m ys (pre ++ [y]) (e + 273) _ _ hyl (by simp; omega) (fun x hx => (hh x (List.mem_cons_of_mem _ hx)).le (by omega)) (by omega) fun o o' => ?_
          have := k o o'
          rw [e3] at this
          rw [List.append_assoc]
          exact this
/-- the tops of the moved coefficients -/
def tops (a b : Int) (ps : List Int) : List Int := shf a ps.length (scf b 0 ps)
def ilist (ns : List Int) : D := .list (il ns)
def F_moved_tops : FD := ⟨fun as P _ => ∃ (ps : List Int) (a b : Int), as = [.dat (iTup ps), .dat (fr (a, b))] ∧ PolyOk ps ∧ FrOk a b ∧ P (ilist (tops a b ps)), fun as P P' Z Z' k _ ⟨ps, a, b, e, h1, h2, h⟩ => ⟨ps, a, b, e, h1, h2, k _ h⟩⟩
/-! moved_tops -/
abbrev s_moved_tops : Stmt := top 12
abbrev n_moved_tops : List Str := ["poly", "number", "top", "bottom", "here", "power", "at", "begin"]
theorem sc_moved_tops : FnScope n_moved_tops ["poly", "number"] (defScope s_moved_tops) := ⟨rfl, rfl, rfl, by decide +kernel, rfl, by decide +kernel, by decide +kernel⟩
def t_moved_tops (px : XP) : TSD :=
  (sSeq (sAsg (.tup [2, 3]) (tValD 1))
    (sSeq (sPar [4, 5] (mOwn (dUn gList (tValD 0)) (mVal (tCD (.int 1)) mNil)))
    (sSeq (sFor (iR3 (dBi gSub (dUn gLen (tValD 0)) (tCD (.int 1))) (dUn gNeg (tCD (.int 1))) (dUn gNeg (tCD (.int 1)))) (.nm 6) (sSeq (sStore 4 (dBi gMul (dBi gIx (tOwnD 4) (tValD 6)) (tValD 5)) (tValD 6))
    (sSet 5 (dBi gMul (tValD 5) (tValD 3)))))
    (sSeq (sFor (iR1 (dUn gLen (tOwnD 4))) (.nm 7) (sFor (iR3 (dBi gSub (dUn gLen (tOwnD 4)) (tCD (.int 2))) (dBi gSub (tValD 7) (tCD (.int 1))) (dUn gNeg (tCD (.int 1)))) (.nm 6) (sStore 4 (dBi gAdd (dBi gIx (tOwnD 4) (tValD 6)) (dBi gMul (tValD 2) (dBi gIx (tOwnD 4) (dBi gAdd (tValD 6) (tCD (.int 1)))))) (tValD 6))))
    (sFreeze 4 (sRet (tValD 4)))))))
set_option maxHeartbeats 4000000 in
theorem d_moved_tops {G : Around → Prop} {P : Program} {w : World} {K : PySem.W.Frag} {mg : Str → Option Value} {base : Heap} {k : Nat} (B : Blt mg) {f : Addr} {cdv : Value} {A : Around} {outer : List Env} {s : Shared} {H : Hp} {E : XK} {C : Ct} {px : XP}
    (hr : Room k (A.deeper (envOfC "moved_tops" (defScope s_moved_tops) s.heap.objs.size f cdv))) (hG : G (A.deeper (envOfC "moved_tops" (defScope s_moved_tops) s.heap.objs.size f cdv))) (hx : XO (cxOf (L2.CX P w) P w K mg base n_moved_tops "moved_tops" (defScope s_moved_tops) f cdv A outer s H E) C px (L2.CX P w) E) :
    PSDs (cxOf (L2.CX P w) P w K mg base n_moved_tops "moved_tops" (defScope s_moved_tops) f cdv A outer s H E) C (defBody s_moved_tops) (t_moved_tops px) :=
  have nd := sc_moved_tops.nd
  (pssd_cons (psd_asg (.tup [2, 3]) (pd_var (i := 1)) (pg_tup rfl (pgs_cons (pg_name (i := 2) nd rfl (.inl rfl)) (pgs_cons (pg_name (i := 3) nd rfl (.inl rfl)) pgs_nil))))
    (pssd_cons (psd_par rfl nd (dm_own (pf_list (by rfl) B.list (PO.of (pd_var (i := 0)))) (dm_val pd_int dm_nil)))
    (pssd_cons (psd_for (.nm 6) own_of rfl (di_range3 (by rfl) B.range (pd_sub (PO.of (pd_len (by rfl) B.len (PO.of (pd_var (i := 0))))) (PO.of pd_int)) (pd_neg (PO.of pd_int)) (pd_neg (PO.of pd_int))) (pg_name (i := 6) nd rfl (.inl rfl)) (pssd_cons (psd_store 4 (pd_mul (PO.of (pd_ix (po_own (i := 4)) (PO.of (pd_var (i := 6))))) (PO.of (pd_var (i := 5)))) (pd_var (i := 6)))
    (pssd_one (psd_set 5 nd (pd_mul (PO.of (pd_var (i := 5))) (PO.of (pd_var (i := 3))))))))
    (pssd_cons (psd_for (.nm 7) own_of rfl (di_range1 (by rfl) B.range (pd_len (by rfl) B.len (po_own (i := 4)))) (pg_name (i := 7) nd rfl (.inl rfl)) (pssd_one (psd_for (.nm 6) own_of rfl (di_range3 (by rfl) B.range (pd_sub (PO.of (pd_len (by rfl) B.len (po_own (i := 4)))) (PO.of pd_int)) (pd_sub (PO.of (pd_var (i := 7))) (PO.of pd_int)) (pd_neg (PO.of pd_int))) (pg_name (i := 6) nd rfl (.inl rfl)) (pssd_one (psd_store 4 (pd_add (PO.of (pd_ix (po_own (i := 4)) (PO.of (pd_var (i := 6))))) (PO.of (pd_mul (PO.of (pd_var (i := 2))) (PO.of (pd_ix (po_own (i := 4)) (PO.of (pd_add (PO.of (pd_var (i := 6))) (PO.of pd_int)))))))) (pd_var (i := 6)))))))
    (pssd_freeze 4 (pssd_one (psd_ret (pd_var (i := 4)))))))))
theorem r_moved_tops (px : XP) (as : List DL.Arg) (Q : D → Prop) (h : F_moved_tops.run as Q px) : t_moved_tops px { nx := fun _ => Q .none, rt := Q } (startD n_moved_tops as) := by
  obtain ⟨ps, a, b, rfl, hp, hf, h⟩ := h
  refine ⟨rfl, rfl, ?_⟩
  have hn := hp.n
  have hl : ((ps.map PyData.int).length : Int) = ps.length := by rw [List.length_map]
  have key := loop_scale (D := { nx := sSeq (sFor (iR1 (dUn gLen (tOwnD 4))) (.nm 7) (sFor (iR3 (dBi gSub (dUn gLen (tOwnD 4)) (tCD (.int 2))) (dBi gSub (tValD 7) (tCD (.int 1))) (dUn gNeg (tCD (.int 1)))) (.nm 6) (sStore 4 (dBi gAdd (dBi gIx (tOwnD 4) (tValD 6)) (dBi gMul (tValD 2) (dBi gIx (tOwnD 4) (dBi gAdd (tValD 6) (tCD (.int 1)))))) (tValD 6)))) (sFreeze 4 (sRet (tValD 4))) { nx := fun _ => Q .none, rt := Q }, rt := Q }) (o0 := .val (iTup ps)) (o1 := .val (fr (a, b))) (o7 := .un) hf ps.reverse 0 [] .un (by rw [List.length_reverse]; omega) (fun c hc => hp.c c (List.mem_reverse.mp hc)) (by rw [List.length_reverse]; omega) (fun o' => ?_)
  · rw [List.length_reverse, List.reverse_reverse, List.append_nil, Int.pow_zero] at key
    refine ⟨ps.length, ?_, ?_⟩
    · have q := RgC.neg (i := ((ps.map PyData.int).length : Int) - 1) (j := -1) (by omega) (by omega) (by omega) (by omega)
      have e1 : (((ps.map PyData.int).length : Int) - 1 - -1).toNat = ps.length := by omega
      rw [e1] at q
      exact q
    · show forD _ _ _ (rangeD (((ps.map PyData.int).length : Int) - 1) (-1) ps.length) _
      rw [hl]
      exact key
  · have e1 := scl_eq b ps.reverse 0 []
    rw [Int.pow_zero, List.reverse_reverse, List.append_nil] at e1
    rw [Int.pow_zero, e1]
    have hsl := scf_len b 0 ps
    refine ⟨⟨by rw [il_len, hsl]; omega, by rw [il_len, hsl]; omega⟩, ?_⟩
    show forD _ _ _ (rangeD 0 1 (((il (scf b 0 ps)).length : Int)).toNat) _
    rw [il_len, hsl, Int.toNat_natCast]
    exact loop_shf hf.sa ps.length (scf b 0 ps) [] 340 _ _ hsl (by simp; omega) (scf_sm hf.sb ps hn hp.c) (by omega) fun o o' => h
end Z

namespace Z
open PySem PySem.Spec PyProof.Rows L2 DL
/-! ### comprehensions whose items are known -/
theorem comp_pure {g : Tgt} {tt : TTD} {te : TED} {ρ : List Slot} {P : D → Prop} (f : D → Option D) : ∀ (ds acc : List D),
    (∀ d ∈ ds, ∀ R : Option D → Prop, R (f d) → bindT g d ρ fun ρ2 => tt ρ2 fun b => if b = true then te ρ2 fun y => R (some y) else R none) →
    acc.length + ds.length ≤ sizeLine → P (.list (acc ++ ds.filterMap f)) → compD g tt te ρ ds acc P
  | [], acc, _, _, h => by
    rw [List.filterMap_nil, List.append_nil] at h
    exact h
  | d :: ds, acc, hs, hl, h => by
    have hl' : acc.length + (ds.length + 1) ≤ sizeLine := hl
    refine hs d List.mem_cons_self (fun o => match o with
      | some y => acc.length < sizeLine ∧ compD g tt te ρ ds (acc ++ [y]) P
      | none => compD g tt te ρ ds acc P) ?_
    have ht : ∀ x ∈ ds, ∀ R : Option D → Prop, R (f x) → bindT g x ρ fun ρ2 => tt ρ2 fun b => if b = true then te ρ2 fun y => R (some y) else R none := fun x hx => hs x (List.mem_cons_of_mem _ hx)
    cases e : f d with
    | none =>
      rw [List.filterMap_cons_none e] at h
      exact comp_pure f ds acc ht (by omega) h
    | some y =>
      rw [List.filterMap_cons_some e] at h
      refine ⟨by omega, comp_pure f ds (acc ++ [y]) ht (by simp; omega) ?_⟩
      rw [List.append_assoc]
      exact h
/-- what a comprehension may give if its items are told by a relation -/
def Outs (Rl : D → Option D → Prop) : List D → List D → Prop
  | [], ys => ys = []
  | d :: ds, ys => ∃ o, Rl d o ∧ ∃ r, Outs Rl ds r ∧ ys = o.toList ++ r
theorem comp_rel {g : Tgt} {tt : TTD} {te : TED} {ρ : List Slot} {P : D → Prop} (Rl : D → Option D → Prop) : ∀ (ds acc : List D),
    (∀ d ∈ ds, ∀ R : Option D → Prop, (∀ o, Rl d o → R o) → bindT g d ρ fun ρ2 => tt ρ2 fun b => if b = true then te ρ2 fun y => R (some y) else R none) →
    acc.length + ds.length ≤ sizeLine → (∀ ys, Outs Rl ds ys → P (.list (acc ++ ys))) → compD g tt te ρ ds acc P
  | [], acc, _, _, h => by
    have := h [] rfl
    rw [List.append_nil] at this
    exact this
  | d :: ds, acc, hs, hl, h => by
    have hl' : acc.length + (ds.length + 1) ≤ sizeLine := hl
    refine hs d List.mem_cons_self (fun o => match o with
      | some y => acc.length < sizeLine ∧ compD g tt te ρ ds (acc ++ [y]) P
      | none => compD g tt te ρ ds acc P) ?_
    have ht : ∀ x ∈ ds, ∀ R : Option D → Prop, (∀ o, Rl x o → R o) → bindT g x ρ fun ρ2 => tt ρ2 fun b => if b = true then te ρ2 fun y => R (some y) else R none := fun x hx => hs x (List.mem_cons_of_mem _ hx)
    intro o ho
    cases o with
    | none => exact comp_rel Rl ds acc ht (by omega) fun ys hy => h ys ⟨none, ho, ys, hy, rfl⟩
    | some y =>
      refine ⟨by omega, comp_rel Rl ds (acc ++ [y]) ht (by simp; omega) fun ys hy => ?_⟩
      have := h (y :: ys) ⟨some y, ho, ys, hy, rfl⟩
      rw [List.append_assoc]
      exact this
/-! ### moved_poly -/
/-- the fractions of tops, from the last one on, over growing bottoms -/
def mpr (b : Int) : Nat → List Int → List D
  | _, [] => []
  | m, t :: ts => fr (rd t (b ^ m)) :: mpr b (m + 1) ts
def mpl (b : Int) : List Int → List D
  | [] => []
  | t :: ts => fr (rd t (b ^ ts.length)) :: mpl b ts
theorem mpr_snoc (b t : Int) : ∀ (ts : List Int) (m : Nat), mpr b m (ts ++ [t]) = mpr b m ts ++ [fr (rd t (b ^ (m + ts.length)))]
  | [], m => rfl
  | x :: ts, m => by
    show fr (rd x (b ^ m)) :: mpr b (m + 1) (ts ++ [t]) = _
    rw [mpr_snoc b t ts (m + 1), List.length_cons, show m + 1 + ts.length = m + (ts.length + 1) by omega]
    rfl
theorem mpr_rev (b : Int) : ∀ ts : List Int, (mpr b 0 ts.reverse).reverse = mpl b ts
  | [] => rfl
  | t :: ts => by
    rw [List.reverse_cons, mpr_snoc, List.reverse_append, mpr_rev b ts, List.length_reverse, Nat.zero_add]
    rfl
theorem mpr_len (b : Int) : ∀ (ts : List Int) (m : Nat), (mpr b m ts).length = ts.length
  | [], _ => rfl
  | t :: ts, m => by simp [mpr, mpr_len b ts (m + 1)]
theorem mpl_len (b : Int) : ∀ ts : List Int, (mpl b ts).length = ts.length
  | [] => rfl
  | t :: ts => by simp [mpl, mpl_len b ts]
theorem shf_len (a : Int) : ∀ (n : Nat) (l : List Int), l.length = n → (shf a n l).length = n
  | 0, l, h => h
  | n + 1, l, h => by
    cases hr : l.reverse with
    | nil => rw [← List.length_reverse, hr] at h; cases h
    | cons z rs =>
      have hrl : rs.length = n := by rw [← List.length_reverse, hr] at h; simpa using h
      have hlh := hrn_len a rs [z] (List.cons_ne_nil _ _)
      cases hy : hrn a rs [z] with
      | nil => rw [hy] at hlh; simp at hlh
      | cons y ys =>
        rw [hy] at hlh
        rw [shf_step hr hy, List.length_cons, shf_len a n ys (by simp at hlh; omega)]
theorem tops_len (a b : Int) (ps : List Int) : (tops a b ps).length = ps.length := shf_len a _ _ (scf_len b 0 ps)
def mvp (a b : Int) (ps : List Int) : List D := mpl b (tops a b ps)
def F_moved_poly : FD := ⟨fun as P Z => ∃ (ps : List Int) (d : D), as = [.dat (iTup ps), .dat d] ∧ PolyOk ps ∧ OnFr (fun a b => P (.tuple (mvp a b ps))) (Z CF "thing" d) d,
  fun as P P' Z Z' k z ⟨ps, d, e, h1, h⟩ => ⟨ps, d, e, h1, onFr_mono h (fun _ _ => k _) (z _ _ _)⟩⟩
/-! moved_poly -/
abbrev s_moved_poly : Stmt := top 13
abbrev n_moved_poly : List Str := ["poly", "number", "found", "power", "top"]
theorem sc_moved_poly : FnScope n_moved_poly ["poly", "number"] (defScope s_moved_poly) := ⟨rfl, rfl, rfl, by decide +kernel, rfl, by decide +kernel, by decide +kernel⟩
def t_moved_poly (px : XP) : TSD :=
  (sSeq (sDrop (tCallD F_need_fraction px (aCons (tValD 1) aNil)))
    (sSeq (sPar [2, 3] (mOwn (dLst lNil) (mVal (tCD (.int 1)) mNil)))
    (sSeq (sFor (iL (dUn gRevL (tCallD F_moved_tops px (aCons (tValD 0) (aCons (tValD 1) aNil))))) (.nm 4) (sSeq (sAppend 2 (tCallD F_reduced px (aCons (tValD 4) (aCons (tValD 3) aNil))))
    (sSet 3 (dBi gMul (tValD 3) (dBi gIx (tValD 1) (tCD (.int 1)))))))
    (sRet (dUn gTuple (dUn gRevL (tOwnD 2)))))))
set_option maxHeartbeats 4000000 in
theorem d_moved_poly {G : Around → Prop} {P : Program} {w : World} {K : PySem.W.Frag} {mg : Str → Option Value} {base : Heap} {k : Nat} (B : Blt mg) {f : Addr} {cdv : Value} {A : Around} {outer : List Env} {s : Shared} {H : Hp} {E : XK} {C : Ct} {px : XP}
    (hr : Room k (A.deeper (envOfC "moved_poly" (defScope s_moved_poly) s.heap.objs.size f cdv))) (hG : G (A.deeper (envOfC "moved_poly" (defScope s_moved_poly) s.heap.objs.size f cdv))) (hx : XO (cxOf (L2.CX P w) P w K mg base n_moved_poly "moved_poly" (defScope s_moved_poly) f cdv A outer s H E) C px (L2.CX P w) E) (c_need_fraction : Cal G P w K mg base k "need_fraction" ["thing"] C.q.w F_need_fraction) (c_moved_tops : Cal G P w K mg base k "moved_tops" ["poly", "number"] C.q.w F_moved_tops) (c_reduced : Cal G P w K mg base k "reduced" ["top", "bottom"] C.q.w F_reduced) :
    PSDs (cxOf (L2.CX P w) P w K mg base n_moved_poly "moved_poly" (defScope s_moved_poly) f cdv A outer s H E) C (defBody s_moved_poly) (t_moved_poly px) :=
  have nd := sc_moved_poly.nd
  (pssd_cons (psd_expr (pd_call c_need_fraction hr hG hx (by rfl) (da_cons (pd_var (i := 1)) da_nil)))
    (pssd_cons (psd_par rfl nd (dm_own (pf_lst ds_nil) (dm_val pd_int dm_nil)))
    (pssd_cons (psd_for (.nm 4) own_of rfl (di_list (PD.ofF (pf_revL (PO.of (pd_call c_moved_tops hr hG hx (by rfl) (da_cons (pd_var (i := 0)) (da_cons (pd_var (i := 1)) da_nil))))))) (pg_name (i := 4) nd rfl (.inl rfl)) (pssd_cons (psd_append 2 (pd_call c_reduced hr hG hx (by rfl) (da_cons (pd_var (i := 4)) (da_cons (pd_var (i := 3)) da_nil))))
    (pssd_one (psd_set 3 nd (pd_mul (PO.of (pd_var (i := 3))) (PO.of (pd_ix (PO.of (pd_var (i := 1))) (PO.of pd_int))))))))
    (pssd_one (psd_ret (pd_tuple (by rfl) B.tuple (PO.of (PD.ofF (pf_revL (po_own (i := 2)))))))))))
theorem loop_moved {D : EndsD} {a b : Int} {o0 : Slot} {px : XP} (hf : FrOk a b) : ∀ (ts : List Int) (m : Nat) (l : List DL.D) (o : Slot), m + ts.length ≤ 13 → l.length + ts.length ≤ 13 →
    (∀ o', D.nx [o0, .val (fr (a, b)), .own (l ++ mpr b m ts), .val (.int (b ^ (m + ts.length))), o']) →
    forD (.nm 4) (sSeq (sAppend 2 (tCallD F_reduced px (aCons (tValD 4) (aCons (tValD 3) aNil)))) (sSet 3 (dBi gMul (tValD 3) (dBi gIx (tValD 1) (tCD (.int 1)))))) D (il ts) [o0, .val (fr (a, b)), .own l, .val (.int (b ^ m)), o]
  | [], m, l, o, _, _, k => by
    have := k o
    rw [show mpr b m [] = [] from rfl, List.append_nil] at this
    exact this
  | t :: ts, m, l, o, hm, hl, k => by
    have hm' : m + (ts.length + 1) ≤ 13 := hm
    have hl' : l.length + (ts.length + 1) ≤ 13 := hl
    have hp : 0 < b ^ m := Int.pow_pos hf.sp
    have hc : CMulW (b ^ m) b := (pow_sm hf.sb m).cmul hf.sb (by omega)
    refine ⟨t, b ^ m, rfl, hp, (pow_sm hf.sb m).le (by omega), ?_⟩
    refine ⟨(by show l.length < sizeLine; exact Nat.lt_of_lt_of_le (show l.length < 14 by omega) (by decide)), ?_⟩
    refine ⟨_, rfl, hc, ?_⟩
    have ih := loop_moved (D := D) (o0 := o0) (px := px) hf ts (m + 1) (l ++ [fr (rd t (b ^ m))]) (.val (.int t)) (by omega) (by simp; omega) (fun o' => by
      have := k o'
      rw [List.length_cons] at this
      rw [List.append_assoc, show m + 1 + ts.length = m + (ts.length + 1) by omega]
      exact this)
    rw [Int.pow_succ] at ih
    exact ih
theorem r_moved_poly (px : XP) (as : List DL.Arg) (Q : D → Prop) (h : F_moved_poly.run as Q px) : t_moved_poly px { nx := fun _ => Q .none, rt := Q } (startD n_moved_poly as) := by
  obtain ⟨ps, d, rfl, hp, h⟩ := h
  refine ⟨d, rfl, ?_⟩
  cases e : isFr d with
  | false =>
    rw [if_neg (by simp)]
    exact onFr_no h e
  | true =>
    obtain ⟨a, b, rfl, hf, h⟩ := onFr_yes h e
    rw [if_pos rfl]
    have htl := tops_len a b ps
    have hn := hp.n
    refine ⟨(by decide), rfl, ps, a, b, rfl, hp, hf, ?_⟩
    show forD (.nm 4) _ _ (il (tops a b ps)).reverse _
    rw [show (il (tops a b ps)).reverse = il (tops a b ps).reverse from (List.map_reverse).symm]
    have key := loop_moved (D := { nx := sRet (dUn gTuple (dUn gRevL (tOwnD 2))) { nx := fun _ => Q .none, rt := Q }, rt := Q }) (a := a) (b := b) (o0 := .val (iTup ps)) (px := px) hf (tops a b ps).reverse 0 [] .un (by rw [List.length_reverse]; omega) (by rw [List.length_reverse, htl]; simp; omega) (fun o' => by
      show Q (.tuple ([] ++ mpr b 0 (tops a b ps).reverse).reverse)
      rw [List.nil_append, mpr_rev]
      exact h)
    rw [Int.pow_zero] at key
    exact key
/-! ### many_changes and sign_changes -/
def sgn (ns : List Int) : List Bool := (ns.filter (fun n => !decide (n = 0))).map (fun n => decide (n > 0))
def chg (l : List Bool) : Nat := ((l.zip l.tail).filter (fun p => p.1 != p.2)).length
def F_many_changes : FD := ⟨fun as P _ => ∃ ns : List Int, as = [.dat (ilist ns)] ∧ ns.length ≤ 60 ∧ P (.int (chg (sgn ns) : Nat)), fun as P P' Z Z' k _ ⟨ns, e, h1, h⟩ => ⟨ns, e, h1, k _ h⟩⟩
/-! many_changes -/
abbrev s_many_changes : Stmt := top 14
abbrev n_many_changes : List Str := ["numbers", "signs", "number", "one", "other"]
theorem sc_many_changes : FnScope n_many_changes ["numbers"] (defScope s_many_changes) := ⟨rfl, rfl, rfl, by decide +kernel, rfl, by decide +kernel, by decide +kernel⟩
def t_many_changes (px : XP) : TSD :=
  (sSeq (sSet 1 (dComp (iL (tValD 0)) (.nm 2) (tTestD (dBi (gEqS true) (tValD 2) (tCD (.int 0)))) (dBi gGt (tValD 2) (tCD (.int 0))) [2]))
    (sRet (dUn gLen (dComp (iZip (tValD 1) (dSl gSlL (tValD 1) (oSome (tCD (.int 1))) oNone)) (.tup [3, 4]) (tTestD (dBi (gEqS true) (tValD 3) (tValD 4))) (tCD (.int 1)) [3, 4]))))
set_option maxHeartbeats 4000000 in
theorem d_many_changes {G : Around → Prop} {P : Program} {w : World} {K : PySem.W.Frag} {mg : Str → Option Value} {base : Heap} {k : Nat} (B : Blt mg) {f : Addr} {cdv : Value} {A : Around} {outer : List Env} {s : Shared} {H : Hp} {E : XK} {C : Ct} {px : XP}
    (hr : Room k (A.deeper (envOfC "many_changes" (defScope s_many_changes) s.heap.objs.size f cdv))) (hG : G (A.deeper (envOfC "many_changes" (defScope s_many_changes) s.heap.objs.size f cdv))) (hx : XO (cxOf (L2.CX P w) P w K mg base n_many_changes "many_changes" (defScope s_many_changes) f cdv A outer s H E) C px (L2.CX P w) E) :
    PSDs (cxOf (L2.CX P w) P w K mg base n_many_changes "many_changes" (defScope s_many_changes) f cdv A outer s H E) C (defBody s_many_changes) (t_many_changes px) :=
  have nd := sc_many_changes.nd
  (pssd_cons (psd_setLc 1 (.nm 2) [("number", 2)] rfl nd (di_list (pd_var (i := 0))) (blk_by (N := n_many_changes) (sc := defScope s_many_changes) (by decide +kernel)) (by decide) (fun s H A cl fp => (pg_name (i := 2) nd rfl (.inl rfl) (.inr rfl))) (fun s H A cl fp => (dts_one (dt_neS (PO.of (pd_var (i := 2))) (PO.of pd_int)))) (fun s H A cl fp => (pd_gt (PO.of (pd_var (i := 2))) (PO.of pd_int))))
    (pssd_one (psd_ret (pd_len (by rfl) B.len (PO.of (PD.ofF (pf_comp (.tup [3, 4]) [("one", 3), ("other", 4)] rfl nd (di_zip (by rfl) B.zip (pd_var (i := 1)) (PD.ofF (pf_slL (PO.of (pd_var (i := 1))) (dp_some pd_int) dp_none))) (blk_by (N := n_many_changes) (sc := defScope s_many_changes) (by decide +kernel)) (by decide) (fun s H A cl fp => (pg_tup rfl (pgs_cons (pg_name (i := 3) nd rfl (.inl rfl) (.inr rfl)) (pgs_cons (pg_name (i := 4) nd rfl (.inl rfl) (.inr rfl)) pgs_nil)))) (fun s H A cl fp => (dts_one (dt_neS (PO.of (pd_var (i := 3))) (PO.of (pd_var (i := 4)))))) (fun s H A cl fp => pd_int))))))))
def bl (l : List Bool) : List D := l.map .bool
def fSgn : D → Option D
  | .int n => if (!decide (n = 0)) = true then some (.bool (decide (n > 0))) else none
  | _ => none
theorem fSgn_int (n : Int) : fSgn (.int n) = if (!decide (n = 0)) = true then some (.bool (decide (n > 0))) else none := rfl
theorem fSgn_map : ∀ ns : List Int, (il ns).filterMap fSgn = bl (sgn ns)
  | [] => rfl
  | n :: ns => by
    have ih := fSgn_map ns
    show (PyData.int n :: il ns).filterMap fSgn = _
    unfold sgn at *
    by_cases e : n = 0
    · rw [List.filterMap_cons_none (by simp [fSgn, e]), List.filter_cons_of_neg (by simp [e])]
      exact ih
    · rw [List.filterMap_cons_some (b := .bool (decide (n > 0))) (by simp [fSgn, e]), List.filter_cons_of_pos (by simp [e]), ih]
      rfl
def fNe : D → Option D
  | .tuple [.bool x, .bool y] => if (!decide (x = y)) = true then some (.int 1) else none
  | _ => none
theorem fNe_two (x y : Bool) : fNe (.tuple [.bool x, .bool y]) = if (!decide (x = y)) = true then some (.int 1) else none := rfl
theorem fNe_len : ∀ l r : List Bool, ((zipD (bl l) (bl r)).filterMap fNe).length = ((l.zip r).filter (fun p => p.1 != p.2)).length
  | [], _ => rfl
  | _ :: _, [] => rfl
  | x :: l, y :: r => by
    have ih := fNe_len l r
    show ((PyData.tuple [.bool x, .bool y] :: zipD (bl l) (bl r)).filterMap fNe).length = _
    rw [List.zip_cons_cons]
    cases x <;> cases y <;> simp_all [fNe]
theorem zip_bl {d : D} : ∀ {l r : List Bool}, d ∈ zipD (bl l) (bl r) → ∃ x y, d = .tuple [.bool x, .bool y]
  | [], _, h => by cases h
  | _ :: _, [], h => by cases h
  | x :: l, y :: r, h => by
    rcases List.mem_cons.mp h with rfl | h
    · exact ⟨x, y, rfl⟩
    · exact zip_bl h
theorem zipD_le (l r : List Bool) : (zipD (bl l) (bl r)).length ≤ l.length := by
  rw [zipD_len]
  unfold bl
  simp
  omega
theorem sgn_le (ns : List Int) : (sgn ns).length ≤ ns.length := by
  unfold sgn
  rw [List.length_map]
  exact List.length_filter_le _ _
theorem cut_tail (l : List Bool) : DL.cutD (bl l) (some 1) none = bl l.tail := by
  unfold DL.cutD
  have hl : (bl l).length = l.length := List.length_map _
  cases l with
  | nil => rfl
  | cons x l =>
    have e : HT.sIx (bl (x :: l)).length 0 (some 1) = 1 := by
      rw [hl]
      unfold HT.sIx
      simp
      try omega
    rw [e]
    show (bl l).take _ = bl l
    apply List.take_of_length_le
    show (bl l).length ≤ (bl l).length + 1 - 1
    omega
theorem r_many_changes (px : XP) (as : List DL.Arg) (Q : D → Prop) (h : F_many_changes.run as Q px) : t_many_changes px { nx := fun _ => Q .none, rt := Q } (startD n_many_changes as) := by
  obtain ⟨ns, rfl, hn, h⟩ := h
  have hn' : 0 + ns.length ≤ sizeLine := Nat.le_trans (show 0 + ns.length ≤ 61 by omega) (by decide)
  refine comp_pure fSgn (il ns) [] (fun d hd R r => ?_) (by rw [il_len]; exact hn') ?_
  · obtain ⟨n, _, rfl⟩ := List.mem_map.mp hd
    show if (!decide (n = 0)) = true then _ else _
    rw [fSgn_int] at r
    by_cases e : (!decide (n = 0)) = true
    · rw [if_pos e] at r ⊢
      exact r
    · rw [if_neg e] at r ⊢
      exact r
  · rw [List.nil_append, fSgn_map]
    have hs := sgn_le ns
    show compD (.tup [3, 4]) _ _ _ (zipD (bl (sgn ns)) (DL.cutD (bl (sgn ns)) (some 1) none)) [] _
    rw [cut_tail]
    refine comp_pure fNe _ [] (fun d hd R r => ?_) ?_ ?_
    · obtain ⟨x, y, rfl⟩ := zip_bl hd
      refine ⟨rfl, ?_⟩
      show if (!decide (x = y)) = true then _ else _
      rw [fNe_two] at r
      by_cases e : (!decide (x = y)) = true
      · rw [if_pos e] at r ⊢
        exact r
      · rw [if_neg e] at r ⊢
        exact r
    · have := zipD_le (sgn ns) (sgn ns).tail
      exact Nat.le_trans (show 0 + _ ≤ 61 by omega) (by decide)
    · rw [List.nil_append]
      show Q (.int _)
      rw [fNe_len]
      exact h
def topD : D → Int
  | .tuple (.int a :: _) => a
  | _ => 0
/-- the first item that is no fraction -/
def badOf : List D → Option D
  | [] => none
  | d :: ds => if isFr d = true then badOf ds else some d
def F_sign_changes : FD := ⟨fun as P Z => ∃ ds : List D, as = [.dat (.tuple ds)] ∧ ds.length ≤ 60 ∧ match badOf ds with
    | some d => Z CF "thing" d
    | none => P (.int (chg (sgn (ds.map topD)) : Nat)), fun as P P' Z Z' k z ⟨ds, e, h1, h⟩ => ⟨ds, e, h1, by
      cases hb : badOf ds with
      | none => rw [hb] at h; exact k _ h
      | some d => rw [hb] at h; exact z _ _ _ h⟩⟩
/-! sign_changes -/
abbrev s_sign_changes : Stmt := top 15
abbrev n_sign_changes : List Str := ["numbers", "number"]
theorem sc_sign_changes : FnScope n_sign_changes ["numbers"] (defScope s_sign_changes) := ⟨rfl, rfl, rfl, by decide +kernel, rfl, by decide +kernel, by decide +kernel⟩
def t_sign_changes (px : XP) : TSD :=
  (sSeq (sFor (iT (tValD 0)) (.nm 1) (sDrop (tCallD F_need_fraction px (aCons (tValD 1) aNil))))
    (sRet (tCallD F_many_changes px (aCons (dComp (iT (tValD 0)) (.nm 1) tYesD (dBi gIx (tValD 1) (tCD (.int 0))) [1]) aNil))))
set_option maxHeartbeats 4000000 in
theorem d_sign_changes {G : Around → Prop} {P : Program} {w : World} {K : PySem.W.Frag} {mg : Str → Option Value} {base : Heap} {k : Nat} (B : Blt mg) {f : Addr} {cdv : Value} {A : Around} {outer : List Env} {s : Shared} {H : Hp} {E : XK} {C : Ct} {px : XP}
    (hr : Room k (A.deeper (envOfC "sign_changes" (defScope s_sign_changes) s.heap.objs.size f cdv))) (hG : G (A.deeper (envOfC "sign_changes" (defScope s_sign_changes) s.heap.objs.size f cdv))) (hx : XO (cxOf (L2.CX P w) P w K mg base n_sign_changes "sign_changes" (defScope s_sign_changes) f cdv A outer s H E) C px (L2.CX P w) E) (c_need_fraction : Cal G P w K mg base k "need_fraction" ["thing"] C.q.w F_need_fraction) (c_many_changes : Cal G P w K mg base k "many_changes" ["numbers"] C.q.w F_many_changes) :
    PSDs (cxOf (L2.CX P w) P w K mg base n_sign_changes "sign_changes" (defScope s_sign_changes) f cdv A outer s H E) C (defBody s_sign_changes) (t_sign_changes px) :=
  have nd := sc_sign_changes.nd
  (pssd_cons (psd_for (.nm 1) own_of rfl (di_tup (pd_var (i := 0))) (pg_name (i := 1) nd rfl (.inl rfl)) (pssd_one (psd_expr (pd_call c_need_fraction hr hG hx (by rfl) (da_cons (pd_var (i := 1)) da_nil)))))
    (pssd_one (psd_ret (pd_call c_many_changes hr hG hx (by rfl) (da_cons (PD.ofF (pf_comp (.nm 1) [("number", 1)] rfl nd (di_tup (pd_var (i := 0))) (blk_by (N := n_sign_changes) (sc := defScope s_sign_changes) (by decide +kernel)) (by decide) (fun s H A cl fp => (pg_name (i := 1) nd rfl (.inl rfl) (.inr rfl))) (fun s H A cl fp => dts_nil) (fun s H A cl fp => (pd_ix (PO.of (pd_var (i := 1))) (PO.of pd_int))))) da_nil)))))
theorem badOf_none {ds : List D} (h : badOf ds = none) : ∀ d ∈ ds, isFr d = true := by
  induction ds with
  | nil => exact fun d hd => nomatch hd
  | cons x ds ih =>
    intro d hd
    unfold badOf at h
    by_cases e : isFr x = true
    · rw [if_pos e] at h
      rcases List.mem_cons.mp hd with rfl | hd
      · exact e
      · exact ih h d hd
    · rw [if_neg e] at h
      cases h
theorem loop_need {D : EndsD} {px : XP} {o0 : Slot} {K : Prop} : ∀ (ds : List DL.D) (o : Slot), (∀ d, badOf ds = some d → px CF "thing" d) → (badOf ds = none → ∀ o', D.nx [o0, o']) →
    forD (.nm 1) (sDrop (tCallD F_need_fraction px (aCons (tValD 1) aNil))) D ds [o0, o]
  | [], o, _, k => k rfl o
  | d :: ds, o, hz, k => by
    refine ⟨d, rfl, ?_⟩
    by_cases e : isFr d = true
    · rw [if_pos e]
      have eb : badOf (d :: ds) = badOf ds := by
        show (if isFr d = true then badOf ds else some d) = _
        rw [if_pos e]
      rw [eb] at hz k
      exact loop_need (K := K) ds _ hz k
    · rw [if_neg e]
      refine hz d ?_
      show (if isFr d = true then badOf ds else some d) = _
      rw [if_neg e]
theorem isFr_eq {d : D} (h : isFr d = true) : ∃ a b, d = .tuple [.int a, .int b] ∧ 0 < b := by
  unfold isFr at h
  split at h
  · exact ⟨_, _, rfl, by simpa using h⟩
  · cases h
theorem r_sign_changes (px : XP) (as : List DL.Arg) (Q : D → Prop) (h : F_sign_changes.run as Q px) : t_sign_changes px { nx := fun _ => Q .none, rt := Q } (startD n_sign_changes as) := by
  obtain ⟨ds, rfl, hn, h⟩ := h
  have hn' : 0 + ds.length ≤ sizeLine := Nat.le_trans (show 0 + ds.length ≤ 61 by omega) (by decide)
  refine loop_need (K := True) ds .un (fun d hd => ?_) (fun hd o' => ?_)
  · rw [hd] at h
    exact h
  · rw [hd] at h
    have hb := badOf_none hd
    refine comp_pure (fun d => some (.int (topD d))) ds [] (fun d hm R r => ?_) hn' ?_
    · obtain ⟨a, b, rfl, _⟩ := isFr_eq (hb d hm)
      exact ⟨.int a, rfl, r⟩
    · rw [List.nil_append]
      have e1 : ds.filterMap (fun d => some (PyData.int (topD d))) = il (ds.map topD) := by
        unfold il
        rw [List.map_map, ← List.filterMap_eq_map]
        rfl
      rw [e1]
      exact ⟨ds.map topD, rfl, by rw [List.length_map]; exact hn, h⟩
end Z

namespace DL
open PySem PySem.Spec PyProof.Rows L2
/-! ### what may be shown: a bound for the text, one for the depth -/
structure SB (n e : Nat) (d : D) : Prop where
  s : d.showable = true
  dp : d.depth ≤ e
  l : d.shown.length ≤ n
theorem SB.shw {n e : Nat} {d : D} (h : SB n e d) (hn : n ≤ 16000000) (he : e ≤ 60) : Shw d := ⟨h.s, Nat.le_trans h.dp he, Nat.le_trans h.l (Nat.le_trans hn (by decide))⟩
theorem SB.le {n e n' e' : Nat} {d : D} (h : SB n e d) (hn : n ≤ n') (he : e ≤ e') : SB n' e' d := ⟨h.s, Nat.le_trans h.dp he, Nat.le_trans h.l hn⟩
theorem int_text (i : Int) {k : Nat} (hk : 0 < k) (h : i.natAbs < 10 ^ k) : (Str.ofString (toString i)).length ≤ k + 1 := by
  have nn : ∀ m : Nat, m < 10 ^ k → (Str.ofString (toString (m : Int))).length ≤ k := fun m hm =>
    toString_length_le (by omega) hk (by
      have e : (10 : Int) ^ k = ((10 ^ k : Nat) : Int) := by rw [Int.natCast_pow]; rfl
      rw [e]; omega)
  cases i with
  | ofNat m => exact Nat.le_trans (nn m h) (Nat.le_succ _)
  | negSucc m =>
    have e : toString (Int.negSucc m) = "-" ++ toString ((m + 1 : Nat) : Int) := rfl
    have := nn (m + 1) h
    rw [e, PyProof.Rows.ofString_length, String.toList_append, List.length_append]
    rw [PyProof.Rows.ofString_length] at this
    show 1 + _ ≤ _
    omega
theorem sb_int {i : Int} (h : Sm 1900 i) : SB 601 0 (.int i) := ⟨by
    simp only [PyData.showable, decide_eq_true_eq]
    exact log2_small (Nat.lt_of_lt_of_le h (Nat.pow_le_pow_right (by decide) (by decide))), Nat.le_refl _, by
    have h2 : i.natAbs < 10 ^ 600 := Nat.lt_of_lt_of_le h (by decide +kernel)
    exact int_text i (by decide) h2⟩
theorem sb_none : SB 601 0 .none := ⟨rfl, Nat.le_refl _, by decide +kernel⟩
theorem sb_bool (b : Bool) : SB 601 0 (.bool b) := ⟨rfl, Nat.le_refl _, by cases b <;> decide +kernel⟩
theorem sb_str {x : Str} (hx : ∀ c ∈ x.cps.toList, c < 16 ^ 8) (hl : x.length ≤ 700) : SB 7002 0 (.str x) := ⟨rfl, Nat.le_refl _, by
  have := StrLaws.reprText_len x hx
  show (reprText x).length ≤ 7002
  omega⟩
theorem ofString_cps (x : String) : ∀ c ∈ (Str.ofString x).cps.toList, c < 16 ^ 8 := by
  rw [Str.ofString_eq_toList]
  intro c hc
  have hc : c ∈ x.toList.map Char.toNat := by simpa using hc
  obtain ⟨ch, _, rfl⟩ := List.mem_map.mp hc
  have h := ch.valid
  have h2 : ch.toNat < 1114112 := by
    rcases h with h | ⟨_, h⟩
    · exact Nat.lt_trans h (by decide)
    · exact h
  omega
theorem sb_itext {i : Int} (h : Sm 1900 i) : SB 7002 0 (.str (Str.ofString (toString i))) := sb_str (ofString_cps _) (Nat.le_trans (int_text i (k := 600) (by decide) (Nat.lt_of_lt_of_le h (by decide +kernel))) (by decide))
theorem shownAll_len : ∀ ds : List D, (PyData.shownAll ds).length = ds.length
  | [] => rfl
  | d :: ds => by simp [PyData.shownAll, shownAll_len ds]
theorem sb_all {n e : Nat} : ∀ ds : List D, (∀ d ∈ ds, SB n e d) → PyData.showableAll ds = true ∧ PyData.depthAll ds ≤ e ∧ piled (PyData.shownAll ds) ≤ (n + 2) * ds.length
  | [], _ => ⟨rfl, Nat.zero_le _, Nat.zero_le _⟩
  | d :: ds, h => by
    obtain ⟨h1, h2, h3⟩ := sb_all ds fun x hx => h x (List.mem_cons_of_mem _ hx)
    obtain ⟨s, dd, l⟩ := h d List.mem_cons_self
    refine ⟨?_, ?_, ?_⟩
    · show (d.showable && PyData.showableAll ds) = true
      rw [s, h1]
      rfl
    · show max d.depth (PyData.depthAll ds) ≤ e
      omega
    · show piled (d.shown :: PyData.shownAll ds) ≤ _
      rw [piled_cons, List.length_cons, Nat.mul_add]
      omega
theorem join_le (ts : List Str) : (Str.join ", " ts).length ≤ piled ts := by
  by_cases h : ts = []
  · subst h; exact Nat.le_refl _
  · have := join_length_add ts h
    omega
theorem sb_tup {n e : Nat} {ds : List D} (h : ∀ d ∈ ds, SB n e d) : SB ((n + 2) * ds.length + 3) (e + 1) (.tuple ds) := by
  obtain ⟨h1, h2, h3⟩ := sb_all ds h
  refine ⟨h1, Nat.succ_le_succ h2, ?_⟩
  show (tupleText (PyData.shownAll ds)).length ≤ _
  unfold tupleText
  rw [strLen_append, strLen_append]
  have := join_le (PyData.shownAll ds)
  have e1 : (Str.ofString "(").length = 1 := rfl
  have e2 : (Str.ofString (if (PyData.shownAll ds).length == 1 then ",)" else ")")).length ≤ 2 := by split <;> decide
  omega
theorem textFrom_le : ∀ (ts : List Str) (k : Nat) (acc : Str), (textFrom k acc ts).length ≤ acc.length + piled ts
  | [], k, acc => Nat.le_refl _
  | t :: ts, k, acc => by
    have := textFrom_le ts (k + 1) (acc ++ (if k > 0 then ", " else "" : String) ++ t)
    rw [strLen_append, strLen_append] at this
    have e : (Str.ofString (if k > 0 then ", " else "")).length ≤ 2 := by split <;> decide
    rw [piled_cons]
    show (textFrom (k + 1) (acc ++ (if k > 0 then ", " else "" : String) ++ t) ts).length ≤ _
    omega
theorem sb_list {n e : Nat} {ds : List D} (h : ∀ d ∈ ds, SB n e d) : SB ((n + 2) * ds.length + 3) (e + 1) (.list ds) := by
  obtain ⟨h1, h2, h3⟩ := sb_all ds h
  refine ⟨h1, Nat.succ_le_succ h2, ?_⟩
  show (listText (PyData.shownAll ds)).length ≤ _
  unfold listText
  rw [strLen_append]
  have := textFrom_le (PyData.shownAll ds) 0 "["
  have e1 : (Str.ofString "[").length = 1 := rfl
  have e2 : (Str.ofString "]").length = 1 := rfl
  omega
theorem sb_kv {n e : Nat} : ∀ ks : List (D × D), (∀ p ∈ ks, SB n e p.1 ∧ SB n e p.2) → PyData.showableKv ks = true ∧ PyData.depthKv ks ≤ e ∧ piled (PyData.shownKv ks) ≤ (2 * n + 4) * ks.length
  | [], _ => ⟨rfl, Nat.zero_le _, Nat.zero_le _⟩
  | (k, v) :: ds, h => by
    obtain ⟨h1, h2, h3⟩ := sb_kv ds fun x hx => h x (List.mem_cons_of_mem _ hx)
    obtain ⟨⟨s, dd, l⟩, ⟨s', dd', l'⟩⟩ := h (k, v) List.mem_cons_self
    have s : k.showable = true := s
    have s' : v.showable = true := s'
    have dd : k.depth ≤ e := dd
    have dd' : v.depth ≤ e := dd'
    have l : k.shown.length ≤ n := l
    have l' : v.shown.length ≤ n := l'
    refine ⟨?_, ?_, ?_⟩
    · show (k.showable && v.showable && PyData.showableKv ds) = true
      rw [s, s', h1]
      rfl
    · show max (max k.depth v.depth) (PyData.depthKv ds) ≤ e
      omega
    · show piled ((k.shown ++ ": " ++ v.shown) :: PyData.shownKv ds) ≤ _
      rw [piled_cons, List.length_cons, Nat.mul_add, strLen_append, strLen_append]
      have e1 : (Str.ofString ": ").length = 2 := rfl
      omega
theorem sb_dict {n e : Nat} {ks : List (D × D)} (h : ∀ p ∈ ks, SB n e p.1 ∧ SB n e p.2) : SB ((2 * n + 4) * ks.length + 3) (e + 1) (.dict ks) := by
  obtain ⟨h1, h2, h3⟩ := sb_kv ks h
  refine ⟨h1, Nat.succ_le_succ h2, ?_⟩
  show (dictText (PyData.shownKv ks)).length ≤ _
  unfold dictText
  rw [strLen_append, strLen_append]
  have := join_le (PyData.shownKv ks)
  have e1 : (Str.ofString "{").length = 1 := rfl
  have e2 : (Str.ofString "}").length = 1 := rfl
  omega
end DL

namespace Z
open PySem PySem.Spec PyProof.Rows L2 DL
/-! ### the law's own defs: what is drawn -/
abbrev F_Ldraw : FD := FdDraw
theorem ite_t {b : Bool} {α : Prop} {β : Prop} (h1 : b = true → α) (h2 : b = false → β) : if b = true then α else β := by
  cases b
  · exact h2 rfl
  · exact h1 rfl
def F_Lpick : FD := ⟨fun as P _ => ∃ ds : List D, as = [.deck, .dat (.list ds)] ∧ 1 ≤ ds.length ∧ ds.length ≤ 100 ∧ ∀ d ∈ ds, P d, fun as P P' Z Z' k _ ⟨ds, e, h1, h2, h⟩ => ⟨ds, e, h1, h2, fun d hd => k _ (h d hd)⟩⟩
/-! _law_pick -/
abbrev s_Lpick : Stmt := top 19
abbrev n_Lpick : List Str := ["_law_deck_here", "_law_some"]
theorem sc_Lpick : FnScope n_Lpick ["_law_deck_here", "_law_some"] (defScope s_Lpick) := ⟨rfl, rfl, rfl, by decide +kernel, rfl, by decide +kernel, by decide +kernel⟩
def t_Lpick (px : XP) : TSD :=
  (sRet (dBi gIx (tValD 1) (tCallD F_Ldraw px (aSlot 0 (aCons (dUn gLen (tValD 1)) aNil)))))
set_option maxHeartbeats 4000000 in
theorem d_Lpick {G : Around → Prop} {P : Program} {w : World} {K : PySem.W.Frag} {mg : Str → Option Value} {base : Heap} {k : Nat} (B : Blt mg) {f : Addr} {cdv : Value} {A : Around} {outer : List Env} {s : Shared} {H : Hp} {E : XK} {C : Ct} {px : XP}
    (hr : Room k (A.deeper (envOfC "_law_pick" (defScope s_Lpick) s.heap.objs.size f cdv))) (hG : G (A.deeper (envOfC "_law_pick" (defScope s_Lpick) s.heap.objs.size f cdv))) (hx : XO (cxOf (L2.CX P w) P w K mg base n_Lpick "_law_pick" (defScope s_Lpick) f cdv A outer s H E) C px (L2.CX P w) E) (c_Ldraw : Cal G P w K mg base k "_law_draw" ["_law_deck_here", "_law_many"] C.q.w F_Ldraw) :
    PSDs (cxOf (L2.CX P w) P w K mg base n_Lpick "_law_pick" (defScope s_Lpick) f cdv A outer s H E) C (defBody s_Lpick) (t_Lpick px) :=
  have nd := sc_Lpick.nd
  (pssd_one (psd_ret (pd_ix (PO.of (pd_var (i := 1))) (PO.of (pd_call c_Ldraw hr hG hx (by rfl) (da_slot (i := 0) (da_cons (pd_len (by rfl) B.len (PO.of (pd_var (i := 1)))) da_nil)))))))
theorem r_Lpick (px : XP) (as : List DL.Arg) (Q : D → Prop) (h : F_Lpick.run as Q px) : t_Lpick px { nx := fun _ => Q .none, rt := Q } (startD n_Lpick as) := by
  obtain ⟨ds, rfl, h1, h2, h⟩ := h
  refine ⟨(ds.length : Int), rfl, by omega, by omega, fun r r0 r1 => ?_⟩
  have hr : r.toNat < ds.length := by omega
  have e : ((r.toNat : Nat) : Int) = r := by omega
  refine ⟨ds[r.toNat], ?_, h _ (List.getElem_mem hr)⟩
  have q : L2.atI ds ((r.toNat : Nat) : Int) = some ds[r.toNat] := L2.atI_nat (List.getElem?_eq_getElem hr)
  exact (congrArg (L2.atI ds) e.symm).trans q
/-- what is drawn as any value at a depth -/
def nA : Nat → Nat
  | 0 => 7002
  | j + 1 => 12 * nA j + 60
structure An (j : Nat) (d : D) : Prop where
  sb : SB (nA j) (2 * j + 2) d
  i : ∀ i, d = .int i → Sm 14 i
  fr : ∀ a b, d = .tuple [.int a, .int b] → Sm 14 a ∧ Sm 14 b
theorem nA_ge : ∀ j, 7002 ≤ nA j
  | 0 => Nat.le_refl _
  | j + 1 => by have := nA_ge j; show 7002 ≤ 12 * nA j + 60; omega
theorem an_int {j : Nat} {i : Int} (h : Sm 14 i) : An j (.int i) := ⟨(sb_int (h.le (by decide))).le (by have := nA_ge j; omega) (by omega), fun x e => by cases e; exact h, fun a b e => by cases e⟩
theorem an_atom {j : Nat} {d : D} (h : SB 7002 0 d) (h1 : ∀ i, d ≠ .int i) (h2 : ∀ l, d ≠ .tuple l) : An j d := ⟨h.le (nA_ge j) (by omega), fun x e => absurd e (h1 x), fun a b e => absurd e (h2 _)⟩
theorem an_list {j : Nat} {ds : List D} (h : ∀ d ∈ ds, An j d) (hl : ds.length ≤ 3) : SB (3 * nA j + 9) (2 * j + 3) (.list ds) ∧ SB (3 * nA j + 9) (2 * j + 3) (.tuple ds) := by
  have h1 := sb_list fun d hd => (h d hd).sb
  have h2 := sb_tup fun d hd => (h d hd).sb
  have h3 : (nA j + 2) * ds.length ≤ (nA j + 2) * 3 := Nat.mul_le_mul_left _ hl
  exact ⟨h1.le (by omega) (by omega), h2.le (by omega) (by omega)⟩
def FAny (j : Nat) : FD := ⟨fun as P _ => ∃ dp : Int, as = [.deck, .dat (.int dp)] ∧ 0 ≤ dp ∧ dp < j ∧ ∀ d, An dp.toNat d → P d, fun as P P' Z Z' k _ ⟨dp, e, h1, h2, h⟩ => ⟨dp, e, h1, h2, fun d hd => k _ (h d hd)⟩⟩
/-! _law_any -/
abbrev s_Lany : Stmt := top 20
abbrev n_Lany : List Str := ["_law_deck_here", "_law_deep", "_law_way", "_law_some", "_law_turn"]
theorem sc_Lany : FnScope n_Lany ["_law_deck_here", "_law_deep"] (defScope s_Lany) := ⟨rfl, rfl, rfl, by decide +kernel, rfl, by decide +kernel, by decide +kernel⟩
def t_Lany (Fr : FD) (px : XP) : TSD :=
  (sSeq (sSet 2 (tCallD F_Ldraw px (aSlot 0 (aCons (tCD (.int 8)) aNil))))
    (sSeq (sIf (tTestD (dBi gLt (tValD 2) (tCD (.int 2)))) (sRet (tCallD F_Lpick px (aSlot 0 (aCons (dLst (lCons (tCD (.int 0)) (lCons (tCD (.int 1)) (lCons (dUn gNeg (tCD (.int 1))) (lCons (tCD (.int 2)) (lCons (tCD (.int 10000)) (lCons (dUn gNeg (tCD (.int 7))) lNil))))))) aNil)))) sNext)
    (sSeq (sIf (tTestD (dBi (gEqS false) (tValD 2) (tCD (.int 2)))) (sRet (tCallD F_Lpick px (aSlot 0 (aCons (dLst (lCons (tCD (.str "")) (lCons (tCD (.str "0")) (lCons (tCD (.str "1/2")) (lCons (tCD (.str "(1, 2)")) lNil))))) aNil)))) sNext)
    (sSeq (sIf (tTestD (dBi (gEqS false) (tValD 2) (tCD (.int 3)))) (sRet (tCallD F_Lpick px (aSlot 0 (aCons (dLst (lCons (tCD (.bool true)) (lCons (tCD (.bool false)) (lCons (tCD .none) lNil)))) aNil)))) sNext)
    (sSeq (sSet 3 (tIfD (tTestD (dBi gGt (tValD 1) (tCD (.int 0)))) (dComp (iR1 (tCallD F_Ldraw px (aSlot 0 (aCons (tCD (.int 4)) aNil)))) (.nm 4) tYesD (tCallD Fr never (aSlot 0 (aCons (dBi gSub (tValD 1) (tCD (.int 1))) aNil))) [4]) (dLst lNil)))
    (sSeq (sIf (tTestD (dBi (gEqS false) (tValD 2) (tCD (.int 4)))) (sRet (tValD 3)) sNext)
    (sRet (tIfD (tTestD (dBi (gEqS false) (tValD 2) (tCD (.int 5)))) (dDict (kCons (.inr "key") (tValD 3) (kCons (.inl 1) (dUn gLen (tValD 3)) kNil))) (dUn gTuple (tValD 3))))))))))
set_option maxHeartbeats 4000000 in
theorem d_Lany {Fr : FD} {G : Around → Prop} {P : Program} {w : World} {K : PySem.W.Frag} {mg : Str → Option Value} {base : Heap} {k : Nat} (B : Blt mg) {f : Addr} {cdv : Value} {A : Around} {outer : List Env} {s : Shared} {H : Hp} {E : XK} {C : Ct} {px : XP}
    (hr : Room k (A.deeper (envOfC "_law_any" (defScope s_Lany) s.heap.objs.size f cdv))) (hG : G (A.deeper (envOfC "_law_any" (defScope s_Lany) s.heap.objs.size f cdv))) (hx : XO (cxOf (L2.CX P w) P w K mg base n_Lany "_law_any" (defScope s_Lany) f cdv A outer s H E) C px (L2.CX P w) E) (c_Ldraw : Cal G P w K mg base k "_law_draw" ["_law_deck_here", "_law_many"] C.q.w F_Ldraw) (c_Lpick : Cal G P w K mg base k "_law_pick" ["_law_deck_here", "_law_some"] C.q.w F_Lpick) (c_Lany : Cal G P w K mg base k "_law_any" ["_law_deck_here", "_law_deep"] C.q.w Fr) :
    PSDs (cxOf (L2.CX P w) P w K mg base n_Lany "_law_any" (defScope s_Lany) f cdv A outer s H E) C (defBody s_Lany) (t_Lany Fr px) :=
  have nd := sc_Lany.nd
  (pssd_cons (psd_set 2 nd (pd_call c_Ldraw hr hG hx (by rfl) (da_slot (i := 0) (da_cons pd_int da_nil))))
    (pssd_cons (psd_if (dt_lt (PO.of (pd_var (i := 2))) (PO.of pd_int)) (pssd_one (psd_ret (pd_call c_Lpick hr hG hx (by rfl) (da_slot (i := 0) (da_cons (PD.ofF (pf_lst (ds_cons pd_int (ds_cons pd_int (ds_cons (pd_neg (PO.of pd_int)) (ds_cons pd_int (ds_cons pd_int (ds_cons (pd_neg (PO.of pd_int)) ds_nil)))))))) da_nil))))) pssd_nil)
    (pssd_cons (psd_if (dt_eqS (PO.of (pd_var (i := 2))) (PO.of pd_int)) (pssd_one (psd_ret (pd_call c_Lpick hr hG hx (by rfl) (da_slot (i := 0) (da_cons (PD.ofF (pf_lst (ds_cons pd_str (ds_cons pd_str (ds_cons pd_str (ds_cons pd_str ds_nil)))))) da_nil))))) pssd_nil)
    (pssd_cons (psd_if (dt_eqS (PO.of (pd_var (i := 2))) (PO.of pd_int)) (pssd_one (psd_ret (pd_call c_Lpick hr hG hx (by rfl) (da_slot (i := 0) (da_cons (PD.ofF (pf_lst (ds_cons pd_bl (ds_cons pd_bl (ds_cons pd_non ds_nil))))) da_nil))))) pssd_nil)
    (pssd_cons (psd_set 3 nd (pd_ifE (dt_gt (PO.of (pd_var (i := 1))) (PO.of pd_int)) (PD.ofF (pf_comp (.nm 4) [("_law_turn", 4)] rfl nd (di_range1 (by rfl) B.range (pd_call c_Ldraw hr hG hx (by rfl) (da_slot (i := 0) (da_cons pd_int da_nil)))) (blk_by (N := n_Lany) (sc := defScope s_Lany) (by decide +kernel)) (by decide) (fun s H A cl fp => (pg_name (i := 4) nd rfl (.inl rfl) (.inr rfl))) (fun s H A cl fp => dts_nil) (fun s H A cl fp => (pd_call c_Lany hr hG xo_none (by rfl) (da_slot (i := 0) (da_cons (pd_sub (PO.of (pd_var (i := 1))) (PO.of pd_int)) da_nil)))))) (PD.ofF (pf_lst ds_nil))))
    (pssd_cons (psd_if (dt_eqS (PO.of (pd_var (i := 2))) (PO.of pd_int)) (pssd_one (psd_ret (pd_var (i := 3)))) pssd_nil)
    (pssd_one (psd_ret (pd_ifE (dt_eqS (PO.of (pd_var (i := 2))) (PO.of pd_int)) (pd_dict (dk_s (pd_var (i := 3)) (dk_i (pd_len (by rfl) B.len (PO.of (pd_var (i := 3)))) dk_nil))) (pd_tuple (by rfl) B.tuple (PO.of (pd_var (i := 3)))))))))))))
theorem an_str {j : Nat} (x : String) (h : x.toList.length ≤ 8) : An j (.str (Str.ofString x)) := an_atom (sb_str (ofString_cps x) (by rw [PyProof.Rows.ofString_length]; omega)) (fun _ e => by cases e) (fun _ e => by cases e)
theorem an_some {j : Nat} {ds : List D} (h : ∀ d ∈ ds, ∃ i, j = i + 1 ∧ An i d) (hl : ds.length ≤ 3) : An j (.list ds) ∧ An j (.tuple ds) ∧ An j (.dict [(.str "key", .list ds), (.int 1, .int ds.length)]) := by
  have key : ∃ n, 601 ≤ n ∧ 4 * n + 11 ≤ nA j ∧ SB n (2 * j + 1) (.list ds) ∧ SB n (2 * j + 1) (.tuple ds) := by
    cases j with
    | zero =>
      cases ds with
      | nil => exact ⟨601, by decide, by decide, (sb_list (n := 0) (e := 0) (ds := []) (fun d hd => nomatch hd)).le (by decide) (by decide), (sb_tup (n := 0) (e := 0) (ds := []) (fun d hd => nomatch hd)).le (by decide) (by decide)⟩
      | cons d ds => obtain ⟨i, hi, _⟩ := h d List.mem_cons_self; omega
    | succ j =>
      have h' : ∀ d ∈ ds, An j d := fun d hd => by
        obtain ⟨i, hi, q⟩ := h d hd
        have : i = j := by omega
        exact this ▸ q
      obtain ⟨h1, h2⟩ := an_list h' hl
      have := nA_ge j
      exact ⟨3 * nA j + 9, by omega, by show _ ≤ 12 * nA j + 60; omega, h1.le (Nat.le_refl _) (by omega), h2.le (Nat.le_refl _) (by omega)⟩
  obtain ⟨n, n1, n2, k1, k2⟩ := key
  have hlen : Sm 14 (ds.length : Int) := by
    unfold Sm
    show ds.length < 2 ^ 14
    omega
  have hnA := nA_ge j
  have hkey : SB 601 0 (.str "key") := ⟨rfl, Nat.le_refl _, by decide +kernel⟩
  refine ⟨⟨k1.le (by omega) (by omega), (fun _ e => by cases e), (fun _ _ e => by cases e)⟩, ⟨k2.le (by omega) (by omega), (fun _ e => by cases e), (fun a b e => ?_)⟩, ⟨?_, (fun _ e => by cases e), (fun _ _ e => by cases e)⟩⟩
  · cases e
    obtain ⟨i1, _, g1⟩ := h (.int a) (by simp)
    obtain ⟨i2, _, g2⟩ := h (.int b) (by simp)
    exact ⟨g1.i _ rfl, g2.i _ rfl⟩
  · have q := sb_dict (n := n) (e := 2 * j + 1) (ks := [(.str "key", .list ds), (.int 1, .int ds.length)]) (fun p hp => by
      simp only [List.mem_cons, List.not_mem_nil, or_false] at hp
      rcases hp with rfl | rfl
      · exact ⟨hkey.le n1 (by omega), k1⟩
      · exact ⟨(sb_int ((Sm.one (by decide : 0 < 14)).le (by decide))).le n1 (by omega), (sb_int (hlen.le (by decide))).le n1 (by omega)⟩)
    exact q.le (by show (2 * n + 4) * 2 + 3 ≤ nA j; omega) (by omega)
theorem nd_keys : ([(Sum.inr (Str.ofString "key") : Key), .inl 1]).Nodup := by decide +kernel
theorem r_Lany (j : Nat) (px : XP) (as : List DL.Arg) (Q : D → Prop) (h : (FAny (j + 1)).run as Q px) : t_Lany (FAny j) px { nx := fun _ => Q .none, rt := Q } (startD n_Lany as) := by
  obtain ⟨dp, rfl, h1, h2, h⟩ := h
  refine ⟨8, rfl, by decide, by decide, fun w w0 w1 => ?_⟩
  refine ite_t (b := decide (w < 2)) (fun _ => ?_) (fun e1 => ?_)
  · refine ⟨(by decide), _, rfl, (by decide), (by decide), fun d hd => h d ?_⟩
    simp only [List.mem_cons, List.not_mem_nil, or_false] at hd
    rcases hd with rfl | rfl | rfl | rfl | rfl | rfl <;> exact an_int (by unfold Sm; decide)
  refine ite_t (b := decide (w = 2)) (fun _ => ?_) (fun e2 => ?_)
  · refine ⟨(by decide), _, rfl, (by decide), (by decide), fun d hd => h d ?_⟩
    simp only [List.mem_cons, List.not_mem_nil, or_false] at hd
    rcases hd with rfl | rfl | rfl | rfl <;> exact an_str _ (by decide)
  refine ite_t (b := decide (w = 3)) (fun _ => ?_) (fun e3 => ?_)
  · refine ⟨(by decide), _, rfl, (by decide), (by decide), fun d hd => h d ?_⟩
    simp only [List.mem_cons, List.not_mem_nil, or_false] at hd
    rcases hd with rfl | rfl | rfl
    · exact an_atom ((sb_bool _).le (by decide) (by decide)) (fun _ e => by cases e) (fun _ e => by cases e)
    · exact an_atom ((sb_bool _).le (by decide) (by decide)) (fun _ e => by cases e) (fun _ e => by cases e)
    · exact an_atom (sb_none.le (by decide) (by decide)) (fun _ e => by cases e) (fun _ e => by cases e)
  have last : ∀ ds : List D, (∀ d ∈ ds, ∃ i, dp.toNat = i + 1 ∧ An i d) → ds.length ≤ 3 →
      (sSeq (sIf (tTestD (dBi (gEqS false) (tValD 2) (tCD (.int 4)))) (sRet (tValD 3)) sNext)
    (sRet (tIfD (tTestD (dBi (gEqS false) (tValD 2) (tCD (.int 5)))) (dDict (kCons (.inr "key") (tValD 3) (kCons (.inl 1) (dUn gLen (tValD 3)) kNil))) (dUn gTuple (tValD 3))))) { nx := fun _ => Q .none, rt := Q } [.deck, .val (.int dp), .val (.int w), .val (.list ds), .un] := fun ds hd hl => by
    obtain ⟨k1, k2, k3⟩ := an_some hd hl
    refine ite_t (b := decide (w = 4)) (fun _ => h _ k1) (fun _ => ?_)
    refine ite_t (b := decide (w = 5)) (fun _ => ?_) (fun _ => h _ k2)
    exact ⟨nd_keys, (by show 2 ≤ 15; decide), h _ k3⟩
  refine ite_t (b := decide (dp > 0)) (fun e4 => ?_) (fun e4 => ?_)
  · have hp : dp > 0 := of_decide_eq_true e4
    refine ⟨4, rfl, by decide, by decide, fun m m0 m1 => ⟨⟨by show -(2 ^ 62) ≤ m; omega, by omega⟩, ?_⟩⟩
    have hml : m.toNat ≤ 3 := by omega
    have hrl : (rangeD 0 1 m.toNat).length = m.toNat := by unfold rangeD; simp
    refine comp_rel (fun _ o => ∃ y, o = some y ∧ An (dp - 1).toNat y) _ [] (fun d hd R k => ?_) ?_ ?_
    · exact ⟨dp - 1, rfl, by omega, by omega, fun y hy => k (some y) ⟨y, rfl, hy⟩⟩
    · rw [hrl]; exact Nat.le_trans (show 0 + m.toNat ≤ 3 by omega) (by decide)
    · intro ys hy
      have q : ∀ (ds : List D) ys, Outs (fun _ o => ∃ y, o = some y ∧ An (dp - 1).toNat y) ds ys → (∀ y ∈ ys, An (dp - 1).toNat y) ∧ ys.length = ds.length := by
        intro ds
        induction ds with
        | nil => intro ys e; rw [show ys = [] from e]; exact ⟨(fun y hy => nomatch hy), rfl⟩
        | cons d ds ih =>
          rintro ys ⟨o, ⟨y, rfl, a⟩, r, hr, rfl⟩
          obtain ⟨i1, i2⟩ := ih r hr
          exact ⟨fun z hz => by
            rcases List.mem_cons.mp hz with rfl | hz
            · exact a
            · exact i1 z hz, by show (y :: r).length = _; rw [List.length_cons, List.length_cons, i2]⟩
      obtain ⟨q1, q2⟩ := q _ _ hy
      exact last ([] ++ ys) (fun d hd => ⟨(dp - 1).toNat, by omega, q1 d hd⟩) (by rw [List.nil_append, q2, hrl]; exact hml)
  · exact ⟨(by decide), last [] (fun d hd => nomatch hd) (by decide)⟩
/-! numbers, fractions, polynomials -/
def F_Lnumber : FD := ⟨fun as P _ => ∃ w : Int, as = [.deck, .dat (.int w)] ∧ ∀ i, Sm 70 i → P (.int i), fun as P P' Z Z' k _ ⟨w, e, h⟩ => ⟨w, e, fun i hi => k _ (h i hi)⟩⟩
/-! _law_number -/
abbrev s_Lnumber : Stmt := top 21
abbrev n_Lnumber : List Str := ["_law_deck_here", "_law_way", "_law_great"]
theorem sc_Lnumber : FnScope n_Lnumber ["_law_deck_here", "_law_way"] (defScope s_Lnumber) := ⟨rfl, rfl, rfl, by decide +kernel, rfl, by decide +kernel, by decide +kernel⟩
def t_Lnumber (px : XP) : TSD :=
  (sSeq (sIf (tTestD (dBi gLt (tValD 1) (tCD (.int 2)))) (sRet (tIfD (tTestD (dBi (gEqS false) (tValD 1) (tCD (.int 0)))) (dBi gSub (tCallD F_Ldraw px (aSlot 0 (aCons (tCD (.int 7)) aNil))) (tCD (.int 3))) (tIfD (tTestD (dBi (gEqS false) (tCallD F_Ldraw px (aSlot 0 (aCons (tCD (.int 3)) aNil))) (tCD (.int 0)))) (dBi gSub (tCallD F_Ldraw px (aSlot 0 (aCons (tCD (.int 21)) aNil))) (tCD (.int 10))) (tCD (.int 0))))) sNext)
    (sSeq (sSet 2 (dBi gAdd (dBi gAdd (dBi gMul (tCallD F_Ldraw px (aSlot 0 (aCons (tCD (.int 1000000)) aNil))) (dBi gPow (tCD (.int 10)) (tCD (.int 14)))) (dBi gMul (tCallD F_Ldraw px (aSlot 0 (aCons (tCD (.int 1000000)) aNil))) (dBi gPow (tCD (.int 10)) (tCD (.int 7))))) (tCallD F_Ldraw px (aSlot 0 (aCons (tCD (.int 1000000)) aNil)))))
    (sRet (tIfD (tTestD (dBi (gEqS false) (tCallD F_Ldraw px (aSlot 0 (aCons (tCD (.int 2)) aNil))) (tCD (.int 0)))) (tValD 2) (dUn gNeg (tValD 2))))))
set_option maxHeartbeats 4000000 in
theorem d_Lnumber {G : Around → Prop} {P : Program} {w : World} {K : PySem.W.Frag} {mg : Str → Option Value} {base : Heap} {k : Nat} (B : Blt mg) {f : Addr} {cdv : Value} {A : Around} {outer : List Env} {s : Shared} {H : Hp} {E : XK} {C : Ct} {px : XP}
    (hr : Room k (A.deeper (envOfC "_law_number" (defScope s_Lnumber) s.heap.objs.size f cdv))) (hG : G (A.deeper (envOfC "_law_number" (defScope s_Lnumber) s.heap.objs.size f cdv))) (hx : XO (cxOf (L2.CX P w) P w K mg base n_Lnumber "_law_number" (defScope s_Lnumber) f cdv A outer s H E) C px (L2.CX P w) E) (c_Ldraw : Cal G P w K mg base k "_law_draw" ["_law_deck_here", "_law_many"] C.q.w F_Ldraw) :
    PSDs (cxOf (L2.CX P w) P w K mg base n_Lnumber "_law_number" (defScope s_Lnumber) f cdv A outer s H E) C (defBody s_Lnumber) (t_Lnumber px) :=
  have nd := sc_Lnumber.nd
  (pssd_cons (psd_if (dt_lt (PO.of (pd_var (i := 1))) (PO.of pd_int)) (pssd_one (psd_ret (pd_ifE (dt_eqS (PO.of (pd_var (i := 1))) (PO.of pd_int)) (pd_sub (PO.of (pd_call c_Ldraw hr hG hx (by rfl) (da_slot (i := 0) (da_cons pd_int da_nil)))) (PO.of pd_int)) (pd_ifE (dt_eqS (PO.of (pd_call c_Ldraw hr hG hx (by rfl) (da_slot (i := 0) (da_cons pd_int da_nil)))) (PO.of pd_int)) (pd_sub (PO.of (pd_call c_Ldraw hr hG hx (by rfl) (da_slot (i := 0) (da_cons pd_int da_nil)))) (PO.of pd_int)) pd_int)))) pssd_nil)
    (pssd_cons (psd_set 2 nd (pd_add (PO.of (pd_add (PO.of (pd_mul (PO.of (pd_call c_Ldraw hr hG hx (by rfl) (da_slot (i := 0) (da_cons pd_int da_nil)))) (PO.of (pd_pow (PO.of pd_int) (PO.of pd_int))))) (PO.of (pd_mul (PO.of (pd_call c_Ldraw hr hG hx (by rfl) (da_slot (i := 0) (da_cons pd_int da_nil)))) (PO.of (pd_pow (PO.of pd_int) (PO.of pd_int))))))) (PO.of (pd_call c_Ldraw hr hG hx (by rfl) (da_slot (i := 0) (da_cons pd_int da_nil))))))
    (pssd_one (psd_ret (pd_ifE (dt_eqS (PO.of (pd_call c_Ldraw hr hG hx (by rfl) (da_slot (i := 0) (da_cons pd_int da_nil)))) (PO.of pd_int)) (pd_var (i := 2)) (pd_neg (PO.of (pd_var (i := 2)))))))))
theorem pow14 : (10 : Int) ^ (14 : Int).toNat = 100000000000000 := by decide
theorem pow7 : (10 : Int) ^ (7 : Int).toNat = 10000000 := by decide
theorem r_Lnumber (px : XP) (as : List DL.Arg) (Q : D → Prop) (h : F_Lnumber.run as Q px) : t_Lnumber px { nx := fun _ => Q .none, rt := Q } (startD n_Lnumber as) := by
  obtain ⟨w, rfl, h⟩ := h
  refine ite_t (b := decide (w < 2)) (fun _ => ?_) (fun _ => ?_)
  · refine ite_t (b := decide (w = 0)) (fun _ => ?_) (fun _ => ?_)
    · exact ⟨7, rfl, by decide, by decide, fun r r0 r1 => h _ (Sm.of (by omega) (by omega))⟩
    · refine ⟨3, rfl, by decide, by decide, fun r r0 r1 => ?_⟩
      refine ite_t (b := decide (r = 0)) (fun _ => ?_) (fun _ => ?_)
      · exact ⟨21, rfl, by decide, by decide, fun r r0 r1 => h _ (Sm.of (by omega) (by omega))⟩
      · exact h _ Sm.zero
  · have sm : ∀ x : Int, 0 ≤ x → x < 1000000 → Sm 70 x := fun x x0 x1 => Sm.of (by omega) (by omega)
    refine ⟨1000000, rfl, by decide, by decide, fun r r0 r1 => ⟨⟨by decide, by decide, by decide⟩, (sm r r0 r1).cmul (b := 70) (by rw [pow14]; exact Sm.of (by omega) (by omega)) (by omega), ?_⟩⟩
    refine ⟨1000000, rfl, by decide, by decide, fun q q0 q1 => ⟨⟨by decide, by decide, by decide⟩, (sm q q0 q1).cmul (b := 70) (by rw [pow7]; exact Sm.of (by omega) (by omega)) (by omega), ?_⟩⟩
    refine ⟨1000000, rfl, by decide, by decide, fun u u0 u1 => ?_⟩
    have hv : Sm 70 (r * 10 ^ (14 : Int).toNat + q * 10 ^ (7 : Int).toNat + u) := by
      rw [pow14, pow7]
      exact Sm.of (by omega) (by omega)
    refine ⟨2, rfl, by decide, by decide, fun x x0 x1 => ?_⟩
    exact ite_t (b := decide (x = 0)) (fun _ => h _ hv) (fun _ => h _ hv.neg)
def F_Lfraction : FD := ⟨fun as P _ => as = [.deck] ∧ ∀ a b : Int, -10000 ≤ a → a ≤ 10000 → 0 < b → b ≤ 10000 → P (fr (a, b)), fun as P P' Z Z' k _ ⟨e, h⟩ => ⟨e, fun a b h1 h2 h3 h4 => k _ (h a b h1 h2 h3 h4)⟩⟩
/-! _law_fraction -/
abbrev s_Lfraction : Stmt := top 23
abbrev n_Lfraction : List Str := ["_law_deck_here", "_law_way", "_law_times"]
theorem sc_Lfraction : FnScope n_Lfraction ["_law_deck_here"] (defScope s_Lfraction) := ⟨rfl, rfl, rfl, by decide +kernel, rfl, by decide +kernel, by decide +kernel⟩
def t_Lfraction (px : XP) : TSD :=
  (sSeq (sSet 1 (tCallD F_Ldraw px (aSlot 0 (aCons (tCD (.int 5)) aNil))))
    (sSeq (sIf (tTestD (dBi (gEqS false) (tValD 1) (tCD (.int 0)))) (sRet (dTup (lCons (dBi gSub (tCallD F_Ldraw px (aSlot 0 (aCons (tCD (.int 11)) aNil))) (tCD (.int 5))) (lCons (tCD (.int 1)) lNil)))) sNext)
    (sSeq (sIf (tTestD (dBi (gEqS false) (tValD 1) (tCD (.int 1)))) (sRet (dTup (lCons (dBi gSub (tCallD F_Ldraw px (aSlot 0 (aCons (tCD (.int 20001)) aNil))) (tCD (.int 10000))) (lCons (dBi gAdd (tCD (.int 1)) (tCallD F_Ldraw px (aSlot 0 (aCons (tCD (.int 10000)) aNil)))) lNil)))) sNext)
    (sSeq (sIf (tTestD (dBi (gEqS false) (tValD 1) (tCD (.int 2)))) (sRet (dTup (lCons (tCD (.int 0)) (lCons (dBi gAdd (tCD (.int 1)) (tCallD F_Ldraw px (aSlot 0 (aCons (tCD (.int 10000)) aNil)))) lNil)))) sNext)
    (sSeq (sSet 2 (dBi gAdd (tCD (.int 1)) (tCallD F_Ldraw px (aSlot 0 (aCons (tCD (.int 12)) aNil)))))
    (sRet (dTup (lCons (dBi gMul (tValD 2) (dBi gSub (tCallD F_Ldraw px (aSlot 0 (aCons (tCD (.int 25)) aNil))) (tCD (.int 12)))) (lCons (dBi gMul (tValD 2) (dBi gAdd (tCD (.int 1)) (tCallD F_Ldraw px (aSlot 0 (aCons (tCD (.int 9)) aNil))))) lNil)))))))))
set_option maxHeartbeats 4000000 in
theorem d_Lfraction {G : Around → Prop} {P : Program} {w : World} {K : PySem.W.Frag} {mg : Str → Option Value} {base : Heap} {k : Nat} (B : Blt mg) {f : Addr} {cdv : Value} {A : Around} {outer : List Env} {s : Shared} {H : Hp} {E : XK} {C : Ct} {px : XP}
    (hr : Room k (A.deeper (envOfC "_law_fraction" (defScope s_Lfraction) s.heap.objs.size f cdv))) (hG : G (A.deeper (envOfC "_law_fraction" (defScope s_Lfraction) s.heap.objs.size f cdv))) (hx : XO (cxOf (L2.CX P w) P w K mg base n_Lfraction "_law_fraction" (defScope s_Lfraction) f cdv A outer s H E) C px (L2.CX P w) E) (c_Ldraw : Cal G P w K mg base k "_law_draw" ["_law_deck_here", "_law_many"] C.q.w F_Ldraw) :
    PSDs (cxOf (L2.CX P w) P w K mg base n_Lfraction "_law_fraction" (defScope s_Lfraction) f cdv A outer s H E) C (defBody s_Lfraction) (t_Lfraction px) :=
  have nd := sc_Lfraction.nd
  (pssd_cons (psd_set 1 nd (pd_call c_Ldraw hr hG hx (by rfl) (da_slot (i := 0) (da_cons pd_int da_nil))))
    (pssd_cons (psd_if (dt_eqS (PO.of (pd_var (i := 1))) (PO.of pd_int)) (pssd_one (psd_ret (pd_tup (ds_cons (pd_sub (PO.of (pd_call c_Ldraw hr hG hx (by rfl) (da_slot (i := 0) (da_cons pd_int da_nil)))) (PO.of pd_int)) (ds_cons pd_int ds_nil))))) pssd_nil)
    (pssd_cons (psd_if (dt_eqS (PO.of (pd_var (i := 1))) (PO.of pd_int)) (pssd_one (psd_ret (pd_tup (ds_cons (pd_sub (PO.of (pd_call c_Ldraw hr hG hx (by rfl) (da_slot (i := 0) (da_cons pd_int da_nil)))) (PO.of pd_int)) (ds_cons (pd_add (PO.of pd_int) (PO.of (pd_call c_Ldraw hr hG hx (by rfl) (da_slot (i := 0) (da_cons pd_int da_nil))))) ds_nil))))) pssd_nil)
    (pssd_cons (psd_if (dt_eqS (PO.of (pd_var (i := 1))) (PO.of pd_int)) (pssd_one (psd_ret (pd_tup (ds_cons pd_int (ds_cons (pd_add (PO.of pd_int) (PO.of (pd_call c_Ldraw hr hG hx (by rfl) (da_slot (i := 0) (da_cons pd_int da_nil))))) ds_nil))))) pssd_nil)
    (pssd_cons (psd_set 2 nd (pd_add (PO.of pd_int) (PO.of (pd_call c_Ldraw hr hG hx (by rfl) (da_slot (i := 0) (da_cons pd_int da_nil))))))
    (pssd_one (psd_ret (pd_tup (ds_cons (pd_mul (PO.of (pd_var (i := 2))) (PO.of (pd_sub (PO.of (pd_call c_Ldraw hr hG hx (by rfl) (da_slot (i := 0) (da_cons pd_int da_nil)))) (PO.of pd_int)))) (ds_cons (pd_mul (PO.of (pd_var (i := 2))) (PO.of (pd_add (PO.of pd_int) (PO.of (pd_call c_Ldraw hr hG hx (by rfl) (da_slot (i := 0) (da_cons pd_int da_nil))))))) ds_nil))))))))))
theorem r_Lfraction (px : XP) (as : List DL.Arg) (Q : D → Prop) (h : F_Lfraction.run as Q px) : t_Lfraction px { nx := fun _ => Q .none, rt := Q } (startD n_Lfraction as) := by
  obtain ⟨rfl, h⟩ := h
  have two : ∀ a b : Int, -10000 ≤ a → a ≤ 10000 → 0 < b → b ≤ 10000 → (([PyData.int a, .int b] : List D).length ≤ sizeLine ∧ Q (.tuple [.int a, .int b])) := fun a b h1 h2 h3 h4 => ⟨(by show 2 ≤ sizeLine; decide), h a b h1 h2 h3 h4⟩
  refine ⟨5, rfl, by decide, by decide, fun w w0 w1 => ?_⟩
  refine ite_t (b := decide (w = 0)) (fun _ => ?_) (fun _ => ?_)
  · exact ⟨11, rfl, by decide, by decide, fun r r0 r1 => two _ _ (by omega) (by omega) (by omega) (by omega)⟩
  refine ite_t (b := decide (w = 1)) (fun _ => ?_) (fun _ => ?_)
  · exact ⟨20001, rfl, by decide, by decide, fun r r0 r1 => ⟨10000, rfl, by decide, by decide, fun q q0 q1 => two _ _ (by omega) (by omega) (by omega) (by omega)⟩⟩
  refine ite_t (b := decide (w = 2)) (fun _ => ?_) (fun _ => ?_)
  · exact ⟨10000, rfl, by decide, by decide, fun q q0 q1 => two _ _ (by omega) (by omega) (by omega) (by omega)⟩
  refine ⟨12, rfl, by decide, by decide, fun t t0 t1 => ?_⟩
  have sm : ∀ x : Int, -100 ≤ x → x < 1000000 → Sm 70 x := fun x x0 x1 => Sm.of (by omega) (by omega)
  have ht : t = 0 ∨ t = 1 ∨ t = 2 ∨ t = 3 ∨ t = 4 ∨ t = 5 ∨ t = 6 ∨ t = 7 ∨ t = 8 ∨ t = 9 ∨ t = 10 ∨ t = 11 := by omega
  refine ⟨25, rfl, by decide, by decide, fun r r0 r1 => ⟨(sm (1 + t) (by omega) (by omega)).cmul (sm (r - 12) (by omega) (by omega)) (by omega), ?_⟩⟩
  refine ⟨9, rfl, by decide, by decide, fun q q0 q1 => ⟨(sm (1 + t) (by omega) (by omega)).cmul (sm (1 + q) (by omega) (by omega)) (by omega), ?_⟩⟩
  exact two _ _ (by rcases ht with rfl | rfl | rfl | rfl | rfl | rfl | rfl | rfl | rfl | rfl | rfl | rfl <;> omega) (by rcases ht with rfl | rfl | rfl | rfl | rfl | rfl | rfl | rfl | rfl | rfl | rfl | rfl <;> omega) (Int.mul_pos (by omega) (by omega)) (by rcases ht with rfl | rfl | rfl | rfl | rfl | rfl | rfl | rfl | rfl | rfl | rfl | rfl <;> omega)
/-- what a poly is: one to thirteen coefficients -/
def F_Lpoly : FD := ⟨fun as P _ => as = [.deck] ∧ ∀ ps : List Int, PolyOk ps → 1 ≤ ps.length → P (iTup ps), fun as P P' Z Z' k _ ⟨e, h⟩ => ⟨e, fun ps h1 h2 => k _ (h ps h1 h2)⟩⟩
/-! _law_poly -/
abbrev s_Lpoly : Stmt := top 22
abbrev n_Lpoly : List Str := ["_law_deck_here", "_law_many", "_law_way", "_law_found", "_law_turn", "_law_root", "_law_x", "_law_y", "_law_last", "_law_at"]
theorem sc_Lpoly : FnScope n_Lpoly ["_law_deck_here"] (defScope s_Lpoly) := ⟨rfl, rfl, rfl, by decide +kernel, rfl, by decide +kernel, by decide +kernel⟩
def t_Lpoly (px : XP) : TSD :=
  (sSeq (sAsg (.tup [1, 2]) (dTup (lCons (dBi gAdd (tCD (.int 1)) (tCallD F_Ldraw px (aSlot 0 (aCons (tCD (.int 13)) aNil)))) (lCons (tCallD F_Ldraw px (aSlot 0 (aCons (tCD (.int 4)) aNil))) lNil))))
    (sSeq (sIf (tTestD (dBi (gEqS false) (tValD 2) (tCD (.int 3)))) (sSeq (sSet 3 (dLst (lCons (dBi gAdd (tCD (.int 1)) (tCallD F_Ldraw px (aSlot 0 (aCons (tCD (.int 3)) aNil)))) lNil)))
    (sSeq (sFor (iR1 (dBi gSub (tValD 1) (tCD (.int 1)))) (.nm 4) (sSeq (sSet 5 (dBi gSub (tCallD F_Ldraw px (aSlot 0 (aCons (tCD (.int 7)) aNil))) (tCD (.int 3))))
    (sSet 3 (dComp (iZip (dBi gCat (dLst (lCons (tCD (.int 0)) lNil)) (tValD 3)) (dBi gCat (tValD 3) (dLst (lCons (tCD (.int 0)) lNil)))) (.tup [6, 7]) tYesD (dBi gSub (tValD 6) (dBi gMul (tValD 5) (tValD 7))) [6, 7]))))
    (sRet (dUn gTuple (tValD 3))))) sNext)
    (sSeq (sSet 8 (tCallD F_Lnumber px (aSlot 0 (aCons (tValD 2) aNil))))
    (sRet (dUn gTuple (dBi gCat (dComp (iR1 (dBi gSub (tValD 1) (tCD (.int 1)))) (.nm 9) tYesD (tCallD F_Lnumber never (aSlot 0 (aCons (tValD 2) aNil))) [9]) (dLst (lCons (tIfD (tTestD (dBi (gEqS true) (tValD 8) (tCD (.int 0)))) (tValD 8) (tCD (.int 1))) lNil))))))))
set_option maxHeartbeats 4000000 in
theorem d_Lpoly {G : Around → Prop} {P : Program} {w : World} {K : PySem.W.Frag} {mg : Str → Option Value} {base : Heap} {k : Nat} (B : Blt mg) {f : Addr} {cdv : Value} {A : Around} {outer : List Env} {s : Shared} {H : Hp} {E : XK} {C : Ct} {px : XP}
    (hr : Room k (A.deeper (envOfC "_law_poly" (defScope s_Lpoly) s.heap.objs.size f cdv))) (hG : G (A.deeper (envOfC "_law_poly" (defScope s_Lpoly) s.heap.objs.size f cdv))) (hx : XO (cxOf (L2.CX P w) P w K mg base n_Lpoly "_law_poly" (defScope s_Lpoly) f cdv A outer s H E) C px (L2.CX P w) E) (c_Ldraw : Cal G P w K mg base k "_law_draw" ["_law_deck_here", "_law_many"] C.q.w F_Ldraw) (c_Lnumber : Cal G P w K mg base k "_law_number" ["_law_deck_here", "_law_way"] C.q.w F_Lnumber) :
    PSDs (cxOf (L2.CX P w) P w K mg base n_Lpoly "_law_poly" (defScope s_Lpoly) f cdv A outer s H E) C (defBody s_Lpoly) (t_Lpoly px) :=
  have nd := sc_Lpoly.nd
  (pssd_cons (psd_asg (.tup [1, 2]) (pd_tup (ds_cons (pd_add (PO.of pd_int) (PO.of (pd_call c_Ldraw hr hG hx (by rfl) (da_slot (i := 0) (da_cons pd_int da_nil))))) (ds_cons (pd_call c_Ldraw hr hG hx (by rfl) (da_slot (i := 0) (da_cons pd_int da_nil))) ds_nil))) (pg_tup rfl (pgs_cons (pg_name (i := 1) nd rfl (.inl rfl)) (pgs_cons (pg_name (i := 2) nd rfl (.inr rfl)) pgs_nil))))
    (pssd_cons (psd_if (dt_eqS (PO.of (pd_var (i := 2))) (PO.of pd_int)) (pssd_cons (psd_set 3 nd (PD.ofF (pf_lst (ds_cons (pd_add (PO.of pd_int) (PO.of (pd_call c_Ldraw hr hG hx (by rfl) (da_slot (i := 0) (da_cons pd_int da_nil))))) ds_nil))))
    (pssd_cons (psd_for (.nm 4) own_of rfl (di_range1 (by rfl) B.range (pd_sub (PO.of (pd_var (i := 1))) (PO.of pd_int))) (pg_name (i := 4) nd rfl (.inl rfl)) (pssd_cons (psd_set 5 nd (pd_sub (PO.of (pd_call c_Ldraw hr hG hx (by rfl) (da_slot (i := 0) (da_cons pd_int da_nil)))) (PO.of pd_int)))
    (pssd_one (psd_setLc 3 (.tup [6, 7]) [("_law_x", 6), ("_law_y", 7)] rfl nd (di_zip (by rfl) B.zip (PD.ofF (pf_cat (PO.of (PD.ofF (pf_lst (ds_cons pd_int ds_nil)))) (PO.of (pd_var (i := 3))))) (PD.ofF (pf_cat (PO.of (pd_var (i := 3))) (PO.of (PD.ofF (pf_lst (ds_cons pd_int ds_nil))))))) (blk_by (N := n_Lpoly) (sc := defScope s_Lpoly) (by decide +kernel)) (by decide) (fun s H A cl fp => (pg_tup rfl (pgs_cons (pg_name (i := 6) nd rfl (.inl rfl) (.inr rfl)) (pgs_cons (pg_name (i := 7) nd rfl (.inl rfl) (.inr rfl)) pgs_nil)))) (fun s H A cl fp => dts_nil) (fun s H A cl fp => (pd_sub (PO.of (pd_var (i := 6))) (PO.of (pd_mul (PO.of (pd_var (i := 5))) (PO.of (pd_var (i := 7)))))))))))
    (pssd_one (psd_ret (pd_tuple (by rfl) B.tuple (PO.of (pd_var (i := 3)))))))) pssd_nil)
    (pssd_cons (psd_set 8 nd (pd_call c_Lnumber hr hG hx (by rfl) (da_slot (i := 0) (da_cons (pd_var (i := 2)) da_nil))))
    (pssd_one (psd_ret (pd_tuple (by rfl) B.tuple (PO.of (PD.ofF (pf_cat (PO.of (PD.ofF (pf_comp (.nm 9) [("_law_at", 9)] rfl nd (di_range1 (by rfl) B.range (pd_sub (PO.of (pd_var (i := 1))) (PO.of pd_int))) (blk_by (N := n_Lpoly) (sc := defScope s_Lpoly) (by decide +kernel)) (by decide) (fun s H A cl fp => (pg_name (i := 9) nd rfl (.inl rfl) (.inr rfl))) (fun s H A cl fp => dts_nil) (fun s H A cl fp => (pd_call c_Lnumber hr hG xo_none (by rfl) (da_slot (i := 0) (da_cons (pd_var (i := 2)) da_nil))))))) (PO.of (PD.ofF (pf_lst (ds_cons (pd_ifE (dt_neS (PO.of (pd_var (i := 8))) (PO.of pd_int)) (pd_var (i := 8)) pd_int) ds_nil)))))))))))))
/-! odd things -/
def F_Lodd : FD := ⟨fun as P _ => ∃ a b : Int, as = [.deck, .dat (fr (a, b))] ∧ Sm 14 a ∧ Sm 14 b ∧ ∀ d, An 2 d → P d, fun as P P' Z Z' k _ ⟨a, b, e, h1, h2, h⟩ => ⟨a, b, e, h1, h2, fun d hd => k _ (h d hd)⟩⟩
abbrev F_Lany : FD := FAny 3
/-! _law_odd -/
abbrev s_Lodd : Stmt := top 24
abbrev n_Lodd : List Str := ["_law_deck_here", "_law_number_here", "_law_top", "_law_bottom", "_law_some"]
theorem sc_Lodd : FnScope n_Lodd ["_law_deck_here", "_law_number_here"] (defScope s_Lodd) := ⟨rfl, rfl, rfl, by decide +kernel, rfl, by decide +kernel, by decide +kernel⟩
def t_Lodd (px : XP) : TSD :=
  (sSeq (sAsg (.tup [2, 3]) (tValD 1))
    (sSeq (sSet 4 (dLst (lCons (dTup (lCons (tValD 2) (lCons (tCD (.int 0)) lNil))) (lCons (dTup (lCons (tValD 2) (lCons (dUn gNeg (tValD 3)) lNil))) (lCons (dLst (lCons (tValD 2) (lCons (tValD 3) lNil))) (lCons (dTup (lCons (tValD 2) (lCons (tValD 3) (lCons (tCD (.int 1)) lNil)))) (lCons (dTup (lCons (tValD 2) lNil)) (lCons (dTup (lCons (tCD (.bool true)) (lCons (tValD 3) lNil))) (lCons (dTup (lCons (tValD 2) (lCons (tCD (.bool true)) lNil))) (lCons (dTup (lCons (dUn gStr (tValD 2)) (lCons (tValD 3) lNil))) lNil))))))))))
    (sSeq (sSet 4 (dBi gCat (tValD 4) (dLst (lCons (dTup (lCons (tValD 2) (lCons (tCD .none) lNil))) (lCons (tValD 2) (lCons (dTup (lCons (tValD 1) lNil)) (lCons (dTup (lCons (tCD .none) (lCons (tValD 3) lNil))) (lCons (dTup (lCons (dTup (lCons (tValD 2) (lCons (tCD (.int 1)) lNil))) (lCons (dTup (lCons (tValD 3) (lCons (tCD (.int 1)) lNil))) lNil))) (lCons (dDict (kCons (.inl 0) (tValD 2) (kCons (.inl 1) (tValD 3) kNil))) lNil)))))))))
    (sRet (tIfD (tTestD (dBi (gEqS false) (tCallD F_Ldraw px (aSlot 0 (aCons (tCD (.int 3)) aNil))) (tCD (.int 0)))) (tCallD F_Lany px (aSlot 0 (aCons (tCD (.int 2)) aNil))) (tCallD F_Lpick px (aSlot 0 (aCons (tValD 4) aNil))))))))
set_option maxHeartbeats 4000000 in
theorem d_Lodd {G : Around → Prop} {P : Program} {w : World} {K : PySem.W.Frag} {mg : Str → Option Value} {base : Heap} {k : Nat} (B : Blt mg) {f : Addr} {cdv : Value} {A : Around} {outer : List Env} {s : Shared} {H : Hp} {E : XK} {C : Ct} {px : XP}
    (hr : Room k (A.deeper (envOfC "_law_odd" (defScope s_Lodd) s.heap.objs.size f cdv))) (hG : G (A.deeper (envOfC "_law_odd" (defScope s_Lodd) s.heap.objs.size f cdv))) (hx : XO (cxOf (L2.CX P w) P w K mg base n_Lodd "_law_odd" (defScope s_Lodd) f cdv A outer s H E) C px (L2.CX P w) E) (c_Ldraw : Cal G P w K mg base k "_law_draw" ["_law_deck_here", "_law_many"] C.q.w F_Ldraw) (c_Lany : Cal G P w K mg base k "_law_any" ["_law_deck_here", "_law_deep"] C.q.w F_Lany) (c_Lpick : Cal G P w K mg base k "_law_pick" ["_law_deck_here", "_law_some"] C.q.w F_Lpick) :
    PSDs (cxOf (L2.CX P w) P w K mg base n_Lodd "_law_odd" (defScope s_Lodd) f cdv A outer s H E) C (defBody s_Lodd) (t_Lodd px) :=
  have nd := sc_Lodd.nd
  (pssd_cons (psd_asg (.tup [2, 3]) (pd_var (i := 1)) (pg_tup rfl (pgs_cons (pg_name (i := 2) nd rfl (.inl rfl)) (pgs_cons (pg_name (i := 3) nd rfl (.inl rfl)) pgs_nil))))
    (pssd_cons (psd_set 4 nd (PD.ofF (pf_lst (ds_cons (pd_tup (ds_cons (pd_var (i := 2)) (ds_cons pd_int ds_nil))) (ds_cons (pd_tup (ds_cons (pd_var (i := 2)) (ds_cons (pd_neg (PO.of (pd_var (i := 3)))) ds_nil))) (ds_cons (PD.ofF (pf_lst (ds_cons (pd_var (i := 2)) (ds_cons (pd_var (i := 3)) ds_nil)))) (ds_cons (pd_tup (ds_cons (pd_var (i := 2)) (ds_cons (pd_var (i := 3)) (ds_cons pd_int ds_nil)))) (ds_cons (pd_tup (ds_cons (pd_var (i := 2)) ds_nil)) (ds_cons (pd_tup (ds_cons pd_bl (ds_cons (pd_var (i := 3)) ds_nil))) (ds_cons (pd_tup (ds_cons (pd_var (i := 2)) (ds_cons pd_bl ds_nil))) (ds_cons (pd_tup (ds_cons (pd_str1 (by rfl) B.str (PO.of (pd_var (i := 2)))) (ds_cons (pd_var (i := 3)) ds_nil))) ds_nil)))))))))))
    (pssd_cons (psd_set 4 nd (PD.ofF (pf_cat (PO.of (pd_var (i := 4))) (PO.of (PD.ofF (pf_lst (ds_cons (pd_tup (ds_cons (pd_var (i := 2)) (ds_cons pd_non ds_nil))) (ds_cons (pd_var (i := 2)) (ds_cons (pd_tup (ds_cons (pd_var (i := 1)) ds_nil)) (ds_cons (pd_tup (ds_cons pd_non (ds_cons (pd_var (i := 3)) ds_nil))) (ds_cons (pd_tup (ds_cons (pd_tup (ds_cons (pd_var (i := 2)) (ds_cons pd_int ds_nil))) (ds_cons (pd_tup (ds_cons (pd_var (i := 3)) (ds_cons pd_int ds_nil))) ds_nil))) (ds_cons (pd_dict (dk_i (pd_var (i := 2)) (dk_i (pd_var (i := 3)) dk_nil))) ds_nil))))))))))))
    (pssd_one (psd_ret (pd_ifE (dt_eqS (PO.of (pd_call c_Ldraw hr hG hx (by rfl) (da_slot (i := 0) (da_cons pd_int da_nil)))) (PO.of pd_int)) (pd_call c_Lany hr hG hx (by rfl) (da_slot (i := 0) (da_cons pd_int da_nil))) (pd_call c_Lpick hr hG hx (by rfl) (da_slot (i := 0) (da_cons (pd_var (i := 4)) da_nil)))))))))
theorem an_two {x y : D} (hx : SB 7002 3 x) (hy : SB 7002 3 y) (h : ∀ a b, x = .int a → y = .int b → Sm 14 a ∧ Sm 14 b) : An 2 (.tuple [x, y]) :=
  ⟨(sb_tup (n := 7002) (e := 3) (ds := [x, y]) (fun d hd => by
    simp only [List.mem_cons, List.not_mem_nil, or_false] at hd
    rcases hd with rfl | rfl <;> assumption)).le (by show (7002 + 2) * 2 + 3 ≤ nA 2; decide) (by decide), (fun _ e => by cases e), (fun a b e => by cases e; exact h a b rfl rfl)⟩
theorem an_oth {d : D} (h : SB 100000 6 d) (h1 : ∀ i, d ≠ .int i) (h2 : ∀ a b, d ≠ .tuple [.int a, .int b]) : An 2 d := ⟨h.le (by decide) (by decide), (fun i e => absurd e (h1 i)), (fun a b e => absurd e (h2 a b))⟩
theorem nd01 : ([(Sum.inl 0 : Key), .inl 1]).Nodup := by decide +kernel
theorem r_Lodd (px : XP) (as : List DL.Arg) (Q : D → Prop) (h : F_Lodd.run as Q px) : t_Lodd px { nx := fun _ => Q .none, rt := Q } (startD n_Lodd as) := by
  obtain ⟨a, b, rfl, ha, hb, h⟩ := h
  have ia : SB 7002 3 (.int a) := (sb_int (ha.le (by decide))).le (by decide) (by decide)
  have ib : SB 7002 3 (.int b) := (sb_int (hb.le (by decide))).le (by decide) (by decide)
  have i0 : SB 7002 3 (.int 0) := (sb_int Sm.zero).le (by decide) (by decide)
  have i1 : SB 7002 3 (.int 1) := (sb_int (Sm.one (by decide))).le (by decide) (by decide)
  have inb : SB 7002 3 (.int (-b)) := (sb_int (hb.neg.le (by decide))).le (by decide) (by decide)
  have bt : SB 7002 3 (.bool true) := (sb_bool true).le (by decide) (by decide)
  have nn : SB 7002 3 .none := sb_none.le (by decide) (by decide)
  have st : SB 7002 3 (.str (toString a)) := (sb_itext (ha.le (by decide))).le (by decide) (by decide)
  have z14 : Sm 14 0 := Sm.zero
  have o14 : Sm 14 1 := Sm.one (by decide)
  have s1 : 1 ≤ sizeLine := by decide
  have s2 : 2 ≤ sizeLine := by decide
  have s3 : 3 ≤ sizeLine := by decide
  have s6 : 6 ≤ sizeLine := by decide
  have s8 : 8 ≤ sizeLine := by decide
  have s14 : 14 ≤ sizeLine := by decide
  have hlog : a.natAbs.log2 < 1920 := log2_small (Nat.lt_of_lt_of_le ha (Nat.pow_le_pow_right (by decide) (by decide)))
  refine ⟨rfl, s2, s2, s2, s3, s1, s2, s2, hlog, s2, s8, ?_⟩
  refine ⟨s2, s1, s2, s2, s2, s2, nd01, (by show 2 ≤ 15; decide), s6, s14, ?_⟩
  refine ⟨3, rfl, by decide, by decide, fun r r0 r1 => ?_⟩
  refine ite_t (b := decide (r = 0)) (fun _ => ⟨2, rfl, by decide, by decide, h⟩) (fun _ => ⟨_, rfl, (by show 1 ≤ 14; decide), (by show 14 ≤ 100; decide), fun d hd => h d ?_⟩)
  have t2 : ∀ {x y : D}, SB 7002 3 x → SB 7002 3 y → SB 14011 4 (.tuple [x, y]) := fun {x y} hx hy => sb_tup (n := 7002) (e := 3) (ds := [x, y]) (fun d hd => by
    simp only [List.mem_cons, List.not_mem_nil, or_false] at hd
    rcases hd with rfl | rfl <;> assumption)
  simp only [List.mem_append, List.mem_cons, List.not_mem_nil, or_false] at hd
  rcases hd with (rfl | rfl | rfl | rfl | rfl | rfl | rfl | rfl) | (rfl | rfl | rfl | rfl | rfl | rfl)
  · exact an_two ia i0 (fun x y e e' => by cases e; cases e'; exact ⟨ha, z14⟩)
  · exact an_two ia inb (fun x y e e' => by cases e; cases e'; exact ⟨ha, hb.neg⟩)
  · exact an_oth ((sb_list (n := 7002) (e := 3) (ds := [.int a, .int b]) (fun d hd => by
      simp only [List.mem_cons, List.not_mem_nil, or_false] at hd
      rcases hd with rfl | rfl <;> assumption)).le (by show (7002 + 2) * 2 + 3 ≤ 100000; decide) (by decide)) (fun _ e => by cases e) (fun _ _ e => by cases e)
  · exact an_oth ((sb_tup (n := 601) (e := 3) (ds := [.int a, .int b, .int 1]) (fun d hd => by
      simp only [List.mem_cons, List.not_mem_nil, or_false] at hd
      rcases hd with rfl | rfl | rfl
      · exact (sb_int (ha.le (by decide))).le (by decide) (by decide)
      · exact (sb_int (hb.le (by decide))).le (by decide) (by decide)
      · exact (sb_int (Sm.one (by decide))).le (by decide) (by decide))).le (by show (601 + 2) * 3 + 3 ≤ 100000; decide) (by decide)) (fun _ e => by cases e) (fun _ _ e => by cases e)
  · exact an_oth ((sb_tup (n := 7002) (e := 3) (ds := [.int a]) (fun d hd => by
      simp only [List.mem_cons, List.not_mem_nil, or_false] at hd
      rcases hd with rfl
      exact ia)).le (by show (7002 + 2) * 1 + 3 ≤ 100000; decide) (by decide)) (fun _ e => by cases e) (fun _ _ e => by cases e)
  · exact an_two bt ib (fun x y e e' => by cases e)
  · exact an_two ia bt (fun x y e e' => by cases e')
  · exact an_two st ib (fun x y e e' => by cases e)
  · exact an_two ia nn (fun x y e e' => by cases e')
  · exact an_int ha
  · exact an_oth ((sb_tup (n := 14011) (e := 4) (ds := [fr (a, b)]) (fun d hd => by
      simp only [List.mem_cons, List.not_mem_nil, or_false] at hd
      rcases hd with rfl
      exact t2 ia ib)).le (by show (14011 + 2) * 1 + 3 ≤ 100000; decide) (by decide)) (fun _ e => by cases e) (fun _ _ e => by cases e)
  · exact an_two nn ib (fun x y e e' => by cases e)
  · exact an_oth ((sb_tup (n := 14011) (e := 4) (ds := [.tuple [.int a, .int 1], .tuple [.int b, .int 1]]) (fun d hd => by
      simp only [List.mem_cons, List.not_mem_nil, or_false] at hd
      rcases hd with rfl | rfl
      · exact t2 ia i1
      · exact t2 ib i1)).le (by show (14011 + 2) * 2 + 3 ≤ 100000; decide) (by decide)) (fun _ e => by cases e) (fun _ _ e => by cases e)
  · exact an_oth ((sb_dict (n := 7002) (e := 3) (ks := [(.int 0, .int a), (.int 1, .int b)]) (fun p hp => by
      simp only [List.mem_cons, List.not_mem_nil, or_false] at hp
      rcases hp with rfl | rfl
      · exact ⟨i0, ia⟩
      · exact ⟨i1, ib⟩)).le (by show (2 * 7002 + 4) * 2 + 3 ≤ 100000; decide) (by decide)) (fun _ e => by cases e) (fun _ _ e => by cases e)
end Z

namespace Z
open PySem PySem.Spec PyProof.Rows L2 DL
/-! ### _law_poly read -/
/-- a comprehension over pairs of ints, its items told by a step -/
def lzip (root : Int) : List Int → List Int → List Int
  | x :: xs, y :: ys => (x - root * y) :: lzip root xs ys
  | _, _ => []
theorem lzip_len (root : Int) : ∀ xs ys : List Int, xs.length = ys.length → (lzip root xs ys).length = xs.length
  | [], _, _ => rfl
  | x :: xs, [], h => by cases h
  | x :: xs, y :: ys, h => by
    show (lzip root xs ys).length + 1 = _
    rw [lzip_len root xs ys (by simpa using h)]
    rfl
theorem lzip_sm {root : Int} (hr : Sm 2 root) {e : Nat} : ∀ xs ys : List Int, (∀ x ∈ xs, Sm e x) → (∀ x ∈ ys, Sm e x) → ∀ x ∈ lzip root xs ys, Sm (e + 3) x
  | [], _, _, _, x, hx => by cases hx
  | _ :: _, [], _, _, x, hx => by cases hx
  | a :: xs, b :: ys, h1, h2, x, hx => by
    rcases List.mem_cons.mp hx with rfl | hx
    · have q1 : Sm (e + 2) a := (h1 a List.mem_cons_self).le (by omega)
      have q2 : Sm (e + 2) (-(root * b)) := ((hr.mul (h2 b List.mem_cons_self)).le (by omega)).neg
      have := (q1.add q2).le (b := e + 3) (by omega)
      rwa [← Int.sub_eq_add_neg] at this
    · exact lzip_sm hr xs ys (fun y hy => h1 y (List.mem_cons_of_mem _ hy)) (fun y hy => h2 y (List.mem_cons_of_mem _ hy)) x hx
def fLz (root : Int) : D → Option D
  | .tuple [.int x, .int y] => some (.int (x - root * y))
  | _ => none
theorem fLz_two (root x y : Int) : fLz root (.tuple [.int x, .int y]) = some (.int (x - root * y)) := rfl
theorem fLz_map (root : Int) : ∀ xs ys : List Int, (zipD (il xs) (il ys)).filterMap (fLz root) = il (lzip root xs ys)
  | [], _ => rfl
  | _ :: _, [] => rfl
  | x :: xs, y :: ys => by
    show ((PyData.tuple [.int x, .int y]) :: zipD (il xs) (il ys)).filterMap (fLz root) = _
    rw [List.filterMap_cons_some (fLz_two root x y), fLz_map root xs ys]
    rfl
theorem zip_il {d : D} : ∀ {l r : List Int}, d ∈ zipD (il l) (il r) → ∃ x y, x ∈ l ∧ y ∈ r ∧ d = .tuple [.int x, .int y]
  | [], _, h => by cases h
  | _ :: _, [], h => by cases h
  | x :: l, y :: r, h => by
    rcases List.mem_cons.mp h with rfl | h
    · exact ⟨x, y, List.mem_cons_self, List.mem_cons_self, rfl⟩
    · obtain ⟨a, b, h1, h2, e⟩ := zip_il h
      exact ⟨a, b, List.mem_cons_of_mem _ h1, List.mem_cons_of_mem _ h2, e⟩
def mulr (root : Int) (l : List Int) : List Int := lzip root (0 :: l) (l ++ [0])
theorem loop_mulr {D : EndsD} {px : XP} {o1 o2 o6 o7 o8 o9 : Slot} : ∀ (ds : List DL.D) (l : List Int) (o4 o5 : Slot), l.length + ds.length ≤ 13 → (∀ x ∈ l, Sm (4 + 4 * l.length) x) →
    (∀ (l' : List Int) o4 o5, l'.length = l.length + ds.length → (∀ x ∈ l', Sm (4 + 4 * l'.length) x) → D.nx [.deck, o1, o2, .val (ilist l'), o4, o5, o6, o7, o8, o9]) →
    forD (.nm 4) (sSeq (sSet 5 (dBi gSub (tCallD F_Ldraw px (aSlot 0 (aCons (tCD (.int 7)) aNil))) (tCD (.int 3))))
    (sSet 3 (dComp (iZip (dBi gCat (dLst (lCons (tCD (.int 0)) lNil)) (tValD 3)) (dBi gCat (tValD 3) (dLst (lCons (tCD (.int 0)) lNil)))) (.tup [6, 7]) tYesD (dBi gSub (tValD 6) (dBi gMul (tValD 5) (tValD 7))) [6, 7]))) D ds
      [.deck, o1, o2, .val (ilist l), o4, o5, o6, o7, o8, o9]
  | [], l, o4, o5, _, hs, k => k l o4 o5 rfl hs
  | d :: ds, l, o4, o5, hl, hs, k => by
    have hl' : l.length + (ds.length + 1) ≤ 13 := hl
    refine ⟨7, rfl, by decide, by decide, fun r r0 r1 => ?_⟩
    have s1 : 1 ≤ sizeLine := by decide
    have hL : (il l).length = l.length := il_len l
    have sc : 1 + (il l).length ≤ sizeLine := by rw [hL]; exact Nat.le_trans (show 1 + l.length ≤ 14 by omega) (by decide)
    have sc' : (il l).length + 1 ≤ sizeLine := by rw [Nat.add_comm]; exact sc
    refine ⟨s1, sc, s1, sc', ?_⟩
    have hr : Sm 2 (r - 3) := by unfold Sm; show _ < 4; omega
    have h0 : ∀ x ∈ (0 :: l : List Int), Sm (4 + 4 * l.length) x := fun x hx => by
      rcases List.mem_cons.mp hx with rfl | hx
      · exact Sm.zero
      · exact hs x hx
    have h1 : ∀ x ∈ (l ++ [0] : List Int), Sm (4 + 4 * l.length) x := fun x hx => by
      rcases List.mem_append.mp hx with hx | hx
      · exact hs x hx
      · rw [List.mem_singleton.mp hx]; exact Sm.zero
    have ez : il l ++ [PyData.int 0] = il (l ++ [0]) := by rw [il_app]; rfl
    have hml : (mulr (r - 3) l).length = l.length + 1 := by unfold mulr; rw [lzip_len _ _ _ (by simp)]; rfl
    show compD (.tup [6, 7]) _ _ _ (zipD (il (0 :: l)) (il l ++ [PyData.int 0])) [] _
    rw [ez]
    refine comp_pure (fLz (r - 3)) _ [] (fun d hd R q => ?_) ?_ ?_
    · obtain ⟨x, y, hx, hy, rfl⟩ := zip_il hd
      rw [fLz_two] at q
      exact ⟨rfl, hr.cmul (h1 y hy) (by omega), q⟩
    · rw [zipD_len, il_len, il_len]
      exact Nat.le_trans (show 0 + min (l.length + 1) _ ≤ 14 by omega) (by decide)
    · rw [List.nil_append, fLz_map]
      have hq := lzip_sm hr (0 :: l) (l ++ [0]) h0 h1
      refine loop_mulr ds (mulr (r - 3) l) _ _ (by rw [hml]; omega) (fun x hx => (hq x hx).le (by rw [hml]; omega)) fun l' o4 o5 e1 e2 => ?_
      exact k l' o4 o5 (by rw [e1, hml, List.length_cons]; omega) e2
theorem many_ints {ds : List DL.D} {ys : List DL.D} (h : Outs (fun _ o => ∃ y : Int, o = some (.int y) ∧ Sm 70 y) ds ys) : ∃ ns : List Int, ys = il ns ∧ (∀ n ∈ ns, Sm 70 n) ∧ ns.length = ds.length := by
  induction ds generalizing ys with
  | nil => exact ⟨[], h, (fun n hn => nomatch hn), rfl⟩
  | cons d ds ih =>
    obtain ⟨o, ⟨y, rfl, hy⟩, r, hr, rfl⟩ := h
    obtain ⟨ns, rfl, h1, h2⟩ := ih hr
    exact ⟨y :: ns, rfl, (fun n hn => by
      rcases List.mem_cons.mp hn with rfl | hn
      · exact hy
      · exact h1 n hn), by rw [List.length_cons, List.length_cons, h2]⟩
theorem r_Lpoly (px : XP) (as : List DL.Arg) (Q : D → Prop) (h : F_Lpoly.run as Q px) : t_Lpoly px { nx := fun _ => Q .none, rt := Q } (startD n_Lpoly as) := by
  obtain ⟨rfl, h⟩ := h
  have s1 : 1 ≤ sizeLine := by decide
  have s2 : 2 ≤ sizeLine := by decide
  refine ⟨13, rfl, by decide, by decide, fun m m0 m1 => ⟨4, rfl, by decide, by decide, fun w w0 w1 => ⟨s2, rfl, ?_⟩⟩⟩
  have hm : (1 + m - 1).toNat ≤ 12 := by omega
  have hrl : (rangeD 0 1 (1 + m - 1).toNat).length = (1 + m - 1).toNat := by unfold rangeD; simp
  refine ite_t (b := decide (w = 3)) (fun _ => ?_) (fun _ => ?_)
  · refine ⟨3, rfl, by decide, by decide, fun r r0 r1 => ⟨s1, ⟨by omega, by omega⟩, ?_⟩⟩
    refine loop_mulr _ [1 + r] _ _ (by rw [hrl]; show 1 + _ ≤ 13; omega) (fun x hx => by rw [List.mem_singleton.mp hx]; exact Sm.of (by show -(2 ^ 8) < _; omega) (by show _ < 2 ^ 8; omega)) fun l' o4 o5 e1 e2 => ?_
    rw [hrl] at e1
    have e1 : l'.length = 1 + (1 + m - 1).toNat := e1
    exact h l' ⟨by omega, fun c hc => (e2 c hc).le (by omega)⟩ (by omega)
  · refine ⟨w, rfl, fun i hi => ?_⟩
    refine ⟨⟨by omega, by omega⟩, ?_⟩
    refine comp_rel (fun _ o => ∃ y : Int, o = some (.int y) ∧ Sm 70 y) _ [] (fun d hd R k => ⟨w, rfl, fun y hy => k (some (.int y)) ⟨y, rfl, hy⟩⟩) (by rw [hrl]; exact Nat.le_trans (show 0 + (1 + m - 1).toNat ≤ 12 by omega) (by decide)) fun ys hys => ?_
    obtain ⟨ns, rfl, h1, h2⟩ := many_ints hys
    rw [hrl] at h2
    have last : ∀ z : Int, Sm 70 z → (il ns ++ [PyData.int z]).length ≤ 14 ∧ Q (.tuple ([] ++ il ns ++ [PyData.int z])) := fun z hz => by
      have e : il ns ++ [PyData.int z] = il (ns ++ [z]) := by rw [il_app]; rfl
      rw [List.nil_append, e]
      exact ⟨by rw [il_len, List.length_append]; show ns.length + 1 ≤ 14; omega, h (ns ++ [z]) ⟨by rw [List.length_append]; show ns.length + 1 ≤ 13; omega, fun c hc => by
        rcases List.mem_append.mp hc with hc | hc
        · exact h1 c hc
        · rw [List.mem_singleton.mp hc]; exact hz⟩ (by rw [List.length_append]; show 1 ≤ ns.length + 1; omega)⟩
    refine ite_t (b := !decide (i = 0)) (fun _ => ?_) (fun _ => ?_)
    · obtain ⟨l1, l2⟩ := last i hi
      refine ⟨s1, ?_, l2⟩
      have : (il ns).length + 1 ≤ 14 := by rw [il_len]; omega
      exact Nat.le_trans this (by decide)
    · obtain ⟨l1, l2⟩ := last 1 (Sm.one (by decide))
      refine ⟨s1, ?_, l2⟩
      have : (il ns).length + 1 ≤ 14 := by rw [il_len]; omega
      exact Nat.le_trans this (by decide)
end Z

namespace Z
open PySem PySem.Spec PyProof.Rows L2 DL
/-! ### the law's own reckoning -/
def F_Lreduced : FD := ⟨fun as P _ => ∃ t b : Int, as = [.dat (.int t), .dat (.int b)] ∧ 0 < b ∧ Sm 4000 b ∧ P (fr (rd t b)), fun as P P' Z Z' k _ ⟨t, b, e, h1, h2, h⟩ => ⟨t, b, e, h1, h2, k _ h⟩⟩
/-! _law_reduced -/
abbrev s_Lreduced : Stmt := top 26
abbrev n_Lreduced : List Str := ["_law_top", "_law_bottom", "_law_one", "_law_other"]
theorem sc_Lreduced : FnScope n_Lreduced ["_law_top", "_law_bottom"] (defScope s_Lreduced) := ⟨rfl, rfl, rfl, by decide +kernel, rfl, by decide +kernel, by decide +kernel⟩
def t_Lreduced (px : XP) : TSD :=
  (sSeq (sPar [2, 3] (mVal (dUn gAbs (tValD 0)) (mVal (tValD 1) mNil)))
    (sSeq (sWhile (tTestD (dBi (gEqS true) (tValD 3) (tCD (.int 0)))) (sPar [2, 3] (mVal (tValD 3) (mVal (dBi gMod (dUn gInt (tValD 2)) (tValD 3)) mNil))))
    (sRet (dTup (lCons (dBi gDiv (tValD 0) (tValD 2)) (lCons (dBi gDiv (tValD 1) (tValD 2)) lNil))))))
set_option maxHeartbeats 4000000 in
theorem d_Lreduced {G : Around → Prop} {P : Program} {w : World} {K : PySem.W.Frag} {mg : Str → Option Value} {base : Heap} {k : Nat} (B : Blt mg) {f : Addr} {cdv : Value} {A : Around} {outer : List Env} {s : Shared} {H : Hp} {E : XK} {C : Ct} {px : XP}
    (hr : Room k (A.deeper (envOfC "_law_reduced" (defScope s_Lreduced) s.heap.objs.size f cdv))) (hG : G (A.deeper (envOfC "_law_reduced" (defScope s_Lreduced) s.heap.objs.size f cdv))) (hx : XO (cxOf (L2.CX P w) P w K mg base n_Lreduced "_law_reduced" (defScope s_Lreduced) f cdv A outer s H E) C px (L2.CX P w) E) :
    PSDs (cxOf (L2.CX P w) P w K mg base n_Lreduced "_law_reduced" (defScope s_Lreduced) f cdv A outer s H E) C (defBody s_Lreduced) (t_Lreduced px) :=
  have nd := sc_Lreduced.nd
  (pssd_cons (psd_par rfl nd (dm_val (pd_abs (by rfl) B.abs (PO.of (pd_var (i := 0)))) (dm_val (pd_var (i := 1)) dm_nil)))
    (pssd_cons (psd_while own_of (dt_neS (PO.of (pd_var (i := 3))) (PO.of pd_int)) (pssd_one (psd_par rfl nd (dm_val (pd_var (i := 3)) (dm_val (pd_mod (PO.of (pd_int1 (by rfl) B.int (PO.of (pd_var (i := 2))))) (PO.of (pd_var (i := 3)))) dm_nil)))))
    (pssd_one (psd_ret (pd_tup (ds_cons (pd_div (PO.of (pd_var (i := 0))) (PO.of (pd_var (i := 2)))) (ds_cons (pd_div (PO.of (pd_var (i := 1))) (PO.of (pd_var (i := 2)))) ds_nil)))))))
theorem r_Lreduced (px : XP) (as : List DL.Arg) (Q : D → Prop) (h : F_Lreduced.run as Q px) : t_Lreduced px { nx := fun _ => Q .none, rt := Q } (startD n_Lreduced as) := by
  obtain ⟨t, b, rfl, hb, hs, h⟩ := h
  have hg : 0 < gc t b := gc_pos (by omega)
  have hgs : Sm 4000 (gc t b) := wide_le (by omega) (gc_le hb) hs
  have hc : ∀ x, CDivW x (gc t b) := fun x => hgs.cdiv hg (by decide)
  have ha : 0 ≤ (if t < 0 then -t else t) := by split <;> omega
  have e0 : gc (if t < 0 then -t else t) b = gc t b := by
    have := gc_abs t b
    rwa [if_neg (show ¬ b < 0 by omega)] at this
  refine ⟨rfl, ?_⟩
  refine ⟨fun m ρ => ∃ x y : Int, 0 ≤ x ∧ 0 ≤ y ∧ m = y.toNat ∧ ρ = [.val (.int t), .val (.int b), .val (.int x), .val (.int y)] ∧ gc x y = gc t b, ⟨_, _, _, ha, Int.le_of_lt hb, rfl, rfl, e0⟩, ?_⟩
  rintro m ρ ⟨x, y, hx, hy, rfl, rfl, hgc⟩
  show (if (!decide (y = 0)) = true then _ else _)
  by_cases e : y = 0
  · rw [if_neg (by simp [e])]
    subst e
    rw [gc_zero x hx] at hgc
    subst hgc
    exact ⟨hc _, hc _, (by show 2 ≤ sizeLine; decide), h⟩
  · rw [if_pos (by simp [e])]
    have hp : 0 < y := by omega
    refine ⟨hp, rfl, (x % y).toNat, ?_, y, x % y, hy, Int.emod_nonneg _ e, rfl, rfl, by rw [gc_step hx hy, hgc]⟩
    have h1 := Int.emod_lt_of_pos x hp
    have h2 := Int.emod_nonneg x e
    omega
def F_Lis_fraction : FD := ⟨fun as P _ => ∃ d, as = [.dat d] ∧ P (.bool (isFr d)), fun as P P' Z Z' k _ ⟨d, e, h⟩ => ⟨d, e, k _ h⟩⟩
/-! _law_is_fraction -/
abbrev s_Lis_fraction : Stmt := top 25
abbrev n_Lis_fraction : List Str := ["_law_thing", "_law_x"]
theorem sc_Lis_fraction : FnScope n_Lis_fraction ["_law_thing"] (defScope s_Lis_fraction) := ⟨rfl, rfl, rfl, by decide +kernel, rfl, by decide +kernel, by decide +kernel⟩
def t_Lis_fraction (px : XP) : TSD :=
  (sSeq (sIf (tOrD (tNotD (tTestD (dUn (gIsi "tuple") (tValD 0)))) (tTestD (dBi (gEqS true) (dUn gLen (tValD 0)) (tCD (.int 2))))) (sRet (tCD (.bool false))) sNext)
    (sRet (tAndV (dEqNil false (dComp (iT (tValD 0)) (.nm 1) (tOrD (tNotD (tTestD (dUn (gIsi "int") (tValD 1)))) (tTestD (dUn (gIsi "bool") (tValD 1)))) (tValD 1) [1])) (dBi gGe (dBi gIx (tValD 0) (tCD (.int 1))) (tCD (.int 1))))))
set_option maxHeartbeats 4000000 in
theorem d_Lis_fraction {G : Around → Prop} {P : Program} {w : World} {K : PySem.W.Frag} {mg : Str → Option Value} {base : Heap} {k : Nat} (B : Blt mg) {f : Addr} {cdv : Value} {A : Around} {outer : List Env} {s : Shared} {H : Hp} {E : XK} {C : Ct} {px : XP}
    (hr : Room k (A.deeper (envOfC "_law_is_fraction" (defScope s_Lis_fraction) s.heap.objs.size f cdv))) (hG : G (A.deeper (envOfC "_law_is_fraction" (defScope s_Lis_fraction) s.heap.objs.size f cdv))) (hx : XO (cxOf (L2.CX P w) P w K mg base n_Lis_fraction "_law_is_fraction" (defScope s_Lis_fraction) f cdv A outer s H E) C px (L2.CX P w) E) :
    PSDs (cxOf (L2.CX P w) P w K mg base n_Lis_fraction "_law_is_fraction" (defScope s_Lis_fraction) f cdv A outer s H E) C (defBody s_Lis_fraction) (t_Lis_fraction px) :=
  have nd := sc_Lis_fraction.nd
  (pssd_cons (psd_if (dt_bool (dw_or (dt_not (dt_val (pd_isi "tuple" kits_tuple (by rfl) B.isinstance (by rfl) B.tuple (by decide +kernel) (PO.of (pd_var (i := 0)))))) (dw_or1 (dt_neS (PO.of (pd_len (by rfl) B.len (PO.of (pd_var (i := 0))))) (PO.of pd_int))))) (pssd_one (psd_ret pd_bl)) pssd_nil)
    (pssd_one (psd_ret (pd_and (pd_eqNil (room_u hr) (PO.of (PD.ofF (pf_comp (.nm 1) [("_law_x", 1)] rfl nd (di_tup (pd_var (i := 0))) (blk_by (N := n_Lis_fraction) (sc := defScope s_Lis_fraction) (by decide +kernel)) (by decide) (fun s H A cl fp => (pg_name (i := 1) nd rfl (.inl rfl) (.inr rfl))) (fun s H A cl fp => (dts_one (dt_bool (dw_or (dt_not (dt_val (pd_isi "int" kits_int (by rfl) B.isinstance (by rfl) B.int (by decide +kernel) (PO.of (pd_var (i := 1)))))) (dw_or1 (dt_val (pd_isi "bool" kits_bool (by rfl) B.isinstance (by rfl) B.bool (by decide +kernel) (PO.of (pd_var (i := 1)))))))))) (fun s H A cl fp => (pd_var (i := 1))))))) (pd_one (pd_ge (PO.of (pd_ix (PO.of (pd_var (i := 0))) (PO.of pd_int))) (PO.of pd_int)))))))
/-- an item that is no int -/
def noInt : D → Bool
  | .int _ => false
  | _ => true
def fNi : D → Option D := fun d => if noInt d = true then some d else none
theorem r_Lis_fraction (px : XP) (as : List DL.Arg) (Q : D → Prop) (h : F_Lis_fraction.run as Q px) : t_Lis_fraction px { nx := fun _ => Q .none, rt := Q } (startD n_Lis_fraction as) := by
  obtain ⟨d, rfl, h⟩ := h
  cases d <;> first | exact h | skip
  rename_i ds
  match ds, h with
  | [], h => exact h
  | [x], h =>
    show Q (.bool false)
    have e : isFr (.tuple [x]) = false := by cases x <;> rfl
    rw [e] at h
    exact h
  | x :: y :: z :: r, h =>
    have e : isFr (.tuple (x :: y :: z :: r)) = false := by cases x <;> first | rfl | (cases y <;> rfl)
    rw [e] at h
    show Q (.bool false)
    exact h
  | [a, b], h =>
    have key : compD (.nm 1) (tOrD (tNotD (tTestD (dUn (gIsi "int") (tValD 1)))) (tTestD (dUn (gIsi "bool") (tValD 1)))) (tValD 1) [.val (.tuple [a, b]), .un] [a, b] [] (fun d => gNil false d (fun d => isB d fun c => if c = true then dBi gGe (dBi gIx (tValD 0) (tCD (.int 1))) (tCD (.int 1)) [.val (.tuple [a, b]), .un] Q else Q (.bool false))) := by
      refine comp_pure fNi [a, b] [] (fun d hd R r => ?_) (by show 0 + 2 ≤ sizeLine; decide) ?_
      · cases d <;> exact r
      · rw [List.nil_append]
        cases a <;> first | exact h | skip
        cases b <;> first | exact h | skip
        rename_i a b
        exact ⟨_, rfl, h⟩
    exact key
end Z

set_option exponentiation.threshold 3000
namespace Z
open PySem PySem.Spec PyProof.Rows L2 DL
/-! ### polynomials by their coefficients -/
def ev (y : Int) : List Int → Int
  | [] => 0
  | c :: cs => c + y * ev y cs
def W (m : Nat) : List Int → Nat
  | [] => 0
  | c :: cs => c.natAbs + m * W m cs
def hr (a : Int) : List Int → List Int
  | [] => []
  | c :: cs => match hr a cs with
    | [] => [c]
    | y :: ys => (c + a * y) :: y :: ys
theorem hr_nil {a c : Int} {cs : List Int} (h : hr a cs = []) : hr a (c :: cs) = [c] := by
  show (match hr a cs with
    | [] => [c]
    | y :: ys => (c + a * y) :: y :: ys) = _
  rw [h]
theorem hr_cons {a c y : Int} {cs ys : List Int} (h : hr a cs = y :: ys) : hr a (c :: cs) = (c + a * y) :: y :: ys := by
  show (match hr a cs with
    | [] => [c]
    | y :: ys => (c + a * y) :: y :: ys) = _
  rw [h]
theorem hr_none {a : Int} {cs : List Int} (h : hr a cs = []) : cs = [] := by
  cases cs with
  | nil => rfl
  | cons c cs =>
    cases e : hr a cs with
    | nil => rw [hr_nil e] at h; cases h
    | cons y ys => rw [hr_cons e] at h; cases h
theorem hr_ev (a x : Int) : ∀ (l : List Int) (y : Int) (ys : List Int), hr a l = y :: ys → ev x l = y + (x - a) * ev x ys := by
  intro l
  induction l with
  | nil => intro y ys h; cases h
  | cons c cs ih =>
    intro y ys h
    cases e : hr a cs with
    | nil =>
      rw [hr_nil e] at h
      cases h
      rw [hr_none e]
      show c + x * 0 = c + (x - a) * 0
      rw [Int.mul_zero, Int.mul_zero]
    | cons z zs =>
      rw [hr_cons e] at h
      cases h
      have q := ih z zs e
      show c + x * ev x cs = c + a * z + (x - a) * (z + x * ev x zs)
      rw [q]
      generalize ev x zs = E
      grind
theorem hr_W (a : Int) : ∀ (l : List Int) (y : Int) (ys : List Int), hr a l = y :: ys → y.natAbs + W (1 + a.natAbs) ys ≤ W (1 + a.natAbs) l := by
  intro l
  induction l with
  | nil => intro y ys h; cases h
  | cons c cs ih =>
    intro y ys h
    cases e : hr a cs with
    | nil =>
      rw [hr_nil e] at h
      cases h
      rw [hr_none e]
      show c.natAbs + 0 ≤ c.natAbs + _ * 0
      omega
    | cons z zs =>
      rw [hr_cons e] at h
      cases h
      have q := ih z zs e
      have q2 := Nat.mul_le_mul_left (1 + a.natAbs) q
      have q3 : (c + a * z).natAbs ≤ c.natAbs + a.natAbs * z.natAbs := by
        have := Int.natAbs_add_le c (a * z)
        rwa [Int.natAbs_mul] at this
      show (c + a * z).natAbs + (z.natAbs + (1 + a.natAbs) * W (1 + a.natAbs) zs) ≤ c.natAbs + (1 + a.natAbs) * W (1 + a.natAbs) cs
      rw [Nat.mul_add, Nat.add_mul, Nat.one_mul] at q2
      omega
theorem hrn_hr (a : Int) : ∀ (rs l0 : List Int) (z : Int) (l : List Int), z :: l = hr a l0 → hrn a rs (z :: l) = hr a (rs.reverse ++ l0) := by
  intro rs
  induction rs with
  | nil => intro l0 z l h; exact h
  | cons r rs ih =>
    intro l0 z l h
    show hrn a rs ((r + a * z) :: z :: l) = _
    rw [ih (r :: l0) (r + a * z) (z :: l) (hr_cons h.symm).symm, List.reverse_cons, List.append_assoc]
    rfl
theorem shf_hr {a y : Int} {l ys : List Int} {m : Nat} (h : hr a l = y :: ys) : shf a (m + 1) l = y :: shf a m ys := by
  cases hv : l.reverse with
  | nil =>
    have : l = [] := List.reverse_eq_nil_iff.mp hv
    rw [this] at h
    cases h
  | cons z rs =>
    have el : l = rs.reverse ++ [z] := by
      have := congrArg List.reverse hv
      rwa [List.reverse_reverse, List.reverse_cons] at this
    refine shf_step hv ?_
    rw [hrn_hr a rs [z] z [] rfl, ← el, h]
theorem shf_all (a : Int) : ∀ (n : Nat) (l : List Int), l.length = n → (∀ y, ev y (shf a n l) = ev (y + a) l) ∧ ∀ x ∈ shf a n l, x.natAbs ≤ W (1 + a.natAbs) l := by
  intro n
  induction n with
  | zero =>
    intro l h
    have : l = [] := List.length_eq_zero_iff.mp h
    subst this
    exact ⟨fun y => rfl, fun x hx => nomatch hx⟩
  | succ n ih =>
    intro l h
    cases e : hr a l with
    | nil => rw [hr_none e] at h; cases h
    | cons y ys =>
      have hl : ys.length = n := by
        have : ∀ l : List Int, (hr a l).length = l.length := by
          intro l
          induction l with
          | nil => rfl
          | cons c cs ih =>
            cases e : hr a cs with
            | nil => rw [hr_nil e, hr_none e]
            | cons z zs => rw [hr_cons e, List.length_cons, ← e, ih]; rfl
        have q := this l
        rw [e, h] at q
        simpa using q
      obtain ⟨i1, i2⟩ := ih ys hl
      have w := hr_W a l y ys e
      rw [shf_hr e]
      refine ⟨fun u => ?_, fun x hx => ?_⟩
      · show y + u * ev u (shf a n ys) = _
        rw [i1 u, hr_ev a (u + a) l y ys e, Int.add_sub_cancel]
      · rcases List.mem_cons.mp hx with rfl | hx
        · omega
        · have := i2 x hx
          omega
theorem hor_ev (a b : Int) : ∀ ps : List Int, hor a b ps.reverse = (ev a (scf b 0 ps), b ^ ps.length) := by
  intro ps
  unfold hor
  rw [List.foldl_reverse]
  induction ps with
  | nil => show ((0 : Int), (1 : Int)) = (0, b ^ 0); rw [Int.pow_zero]
  | cons c cs ih =>
    rw [List.foldr_cons, ih]
    unfold hst
    show (ev a (scf b 0 cs) * a + c * b ^ cs.length, b ^ cs.length * b) = (c * b ^ (cs.length + 0) + a * ev a (scf b 0 cs), b ^ (cs.length + 1))
    rw [Int.pow_succ, Nat.add_zero, Int.mul_comm a, Int.add_comm]
/-! ### fractions without common divisors -/
theorem rd_scale (t w : Int) {k : Int} (hk : 0 < k) : rd (t * k) (w * k) = rd t w := by
  unfold rd gc
  have e : ((Int.gcd (t * k) (w * k) : Nat) : Int) = (Int.gcd t w : Nat) * k := by
    rw [Int.gcd_mul_right, Int.natCast_mul]
    congr 1
    omega
  rw [e, Int.mul_ediv_mul_of_pos_left _ _ hk, Int.mul_ediv_mul_of_pos_left _ _ hk]
theorem rd_eqv {x w N d : Int} (hw : 0 < w) (hd : 0 < d) (h : x * d = N * w) : rd x w = rd N d := by
  rw [← rd_scale x w hd, ← rd_scale N d hw, h, Int.mul_comm w d]
theorem rd_pos {t w : Int} (hw : 0 < w) : 0 < (rd t w).2 := by
  have hg : 0 < gc t w := gc_pos (by omega)
  have hle : gc t w ≤ w := gc_le hw
  show 0 < w / gc t w
  exact Int.ediv_pos_of_pos_of_dvd hw (by omega) (by unfold gc; exact Int.gcd_dvd_right _ _)
theorem rd_prop (t w : Int) : (rd t w).1 * w = t * (rd t w).2 := by
  have d1 : gc t w ∣ t := by unfold gc; exact Int.gcd_dvd_left _ _
  have d2 : gc t w ∣ w := by unfold gc; exact Int.gcd_dvd_right _ _
  show t / gc t w * w = t * (w / gc t w)
  rw [← Int.mul_ediv_assoc t d2, Int.mul_comm (t / gc t w) w, ← Int.mul_ediv_assoc w d1, Int.mul_comm w t]
theorem rd_rd {t w : Int} (hw : 0 < w) : rd (rd t w).1 (rd t w).2 = rd t w := rd_eqv (rd_pos hw) hw (rd_prop t w)
theorem sm_div {e : Nat} {t g : Int} (h : Sm e t) : Sm e (t / g) := Nat.lt_of_le_of_lt (Int.natAbs_ediv_le_natAbs t g) h
theorem rd_sm1 {e : Nat} {t w : Int} (h : Sm e t) : Sm e (rd t w).1 := sm_div h
theorem rd_sm2 {e : Nat} {t w : Int} (h : Sm e w) : Sm e (rd t w).2 := sm_div h
/-! sizes of the moved tops -/
theorem W_sm {a : Int} (ha : Sm 20 a) {e : Nat} : ∀ l : List Int, (∀ x ∈ l, Sm e x) → W (1 + a.natAbs) l < 2 ^ (e + 22 * l.length) := by
  intro l
  induction l with
  | nil => intro _; exact Nat.pow_pos (by decide)
  | cons c cs ih =>
    intro h
    have h1 : c.natAbs < 2 ^ e := h c List.mem_cons_self
    have h2 := ih fun x hx => h x (List.mem_cons_of_mem _ hx)
    have h3 : 1 + a.natAbs ≤ 2 ^ 20 := by have : a.natAbs < 2 ^ 20 := ha; omega
    have h4 : (1 + a.natAbs) * W (1 + a.natAbs) cs ≤ 2 ^ 20 * 2 ^ (e + 22 * cs.length) := Nat.mul_le_mul h3 (Nat.le_of_lt h2)
    have e1 : 2 ^ (e + 22 * (c :: cs).length) = 2 ^ 22 * 2 ^ (e + 22 * cs.length) := by
      rw [List.length_cons, ← Nat.pow_add]
      congr 1
      omega
    have e2 : 2 ^ e ≤ 2 ^ (e + 22 * cs.length) := Nat.pow_le_pow_right (by decide) (by omega)
    show c.natAbs + (1 + a.natAbs) * W (1 + a.natAbs) cs < _
    rw [e1]
    generalize 2 ^ (e + 22 * cs.length) = Y at *
    generalize 2 ^ e = Z at *
    generalize (1 + a.natAbs) * W (1 + a.natAbs) cs = V at *
    omega
theorem tops_sm {a b : Int} (hf : FrOk a b) {ps : List Int} (hp : PolyOk ps) : ∀ x ∈ tops a b ps, Sm 640 x := by
  intro x hx
  have h1 := (shf_all a ps.length (scf b 0 ps) (scf_len b 0 ps)).2 x hx
  have h2 := W_sm hf.sa (e := 340) (scf b 0 ps) (scf_sm hf.sb ps hp.n hp.c)
  have hn := hp.n
  rw [scf_len] at h2
  exact Nat.lt_of_lt_of_le (Nat.lt_of_le_of_lt h1 h2) (Nat.pow_le_pow_right (by decide) (by omega))
theorem hor_sm1 {a b : Int} (hf : FrOk a b) {ps : List Int} (hp : PolyOk ps) : Sm 400 (hor a b ps.reverse).1 ∧ Sm 280 (b ^ ps.length) := by
  obtain ⟨s1, s2⟩ := hor_sm hf ps.reverse 0 (0, 1) (fun c hc => hp.c c (List.mem_reverse.mp hc)) Sm.zero (Sm.one (by decide))
  have hn := hp.n
  rw [List.length_reverse] at s1 s2
  exact ⟨s1.le (by omega), (pow_sm hf.sb _).le (by omega)⟩
/-! ### the value at a point further on, from the moved coefficients -/
def alo (b far : Int) : List Int → Int × Int → Int → Int × Int
  | [], s, _ => s
  | t :: ts, s, p => alo b far ts (rd (s.1 * (rd t (b ^ ts.length)).2 + (rd t (b ^ ts.length)).1 * p * s.2) (s.2 * (rd t (b ^ ts.length)).2)) (p * far)
theorem alo_key {b far q t t' u s1 s2 x w p E : Int} (hu : 0 < u) (h1 : t' * q = t * u) (h2 : x * (s2 * u) = (s1 * u + t' * p * s2) * w) :
    (x * q + w * (p * far) * b * E) * (s2 * (q * b)) = (s1 * (q * b) + s2 * p * b * (t + (b * far) * E)) * (w * q) := by
  have k : u * (x * s2 * q) = u * (s1 * w * q + s2 * p * t * w) := by grind
  have k2 := Int.eq_of_mul_eq_mul_left (by omega) k
  grind
theorem alo_val {b far : Int} (hb : 0 < b) : ∀ (ts : List Int) (s : Int × Int) (p : Int), 0 < s.2 → 0 < (alo b far ts s p).2 ∧
    rd (alo b far ts s p).1 (alo b far ts s p).2 = rd (s.1 * b ^ ts.length + s.2 * p * b * ev (b * far) ts) (s.2 * b ^ ts.length) := by
  intro ts
  induction ts with
  | nil =>
    intro s p h
    refine ⟨h, ?_⟩
    show rd s.1 s.2 = rd (s.1 * b ^ 0 + s.2 * p * b * 0) (s.2 * b ^ 0)
    rw [Int.pow_zero, Int.mul_one, Int.mul_one, Int.mul_zero, Int.add_zero]
  | cons t ts ih =>
    intro s p h
    have hq : 0 < b ^ ts.length := Int.pow_pos hb
    have hu := rd_pos (t := t) hq
    have hp := rd_prop t (b ^ ts.length)
    show 0 < (alo b far ts (rd (s.1 * (rd t (b ^ ts.length)).2 + (rd t (b ^ ts.length)).1 * p * s.2) (s.2 * (rd t (b ^ ts.length)).2)) (p * far)).2 ∧ rd (alo b far ts (rd (s.1 * (rd t (b ^ ts.length)).2 + (rd t (b ^ ts.length)).1 * p * s.2) (s.2 * (rd t (b ^ ts.length)).2)) (p * far)).1 (alo b far ts (rd (s.1 * (rd t (b ^ ts.length)).2 + (rd t (b ^ ts.length)).1 * p * s.2) (s.2 * (rd t (b ^ ts.length)).2)) (p * far)).2 = _
    generalize (rd t (b ^ ts.length)).2 = u at *
    generalize (rd t (b ^ ts.length)).1 = t' at *
    have hY : 0 < s.2 * u := Int.mul_pos h hu
    have hX := rd_prop (s.1 * u + t' * p * s.2) (s.2 * u)
    have hw := rd_pos (t := s.1 * u + t' * p * s.2) hY
    obtain ⟨i1, i2⟩ := ih (rd (s.1 * u + t' * p * s.2) (s.2 * u)) (p * far) hw
    refine ⟨i1, i2.trans ?_⟩
    generalize (rd (s.1 * u + t' * p * s.2) (s.2 * u)).2 = w at *
    generalize (rd (s.1 * u + t' * p * s.2) (s.2 * u)).1 = x at *
    refine rd_eqv (Int.mul_pos hw hq) (Int.mul_pos h (by rw [List.length_cons]; exact Int.pow_pos hb)) ?_
    rw [List.length_cons, Int.pow_succ]
    exact alo_key hu hp hX
/-- what the law's sum of the moved coefficients is -/
theorem alo_is {a b far : Int} (hb : 0 < b) {ps : List Int} (h1 : 1 ≤ ps.length) : alo b far (tops a b ps) (0, 1) 1 = rd ((hor (a + far * b) b ps.reverse).1 * b) (hor (a + far * b) b ps.reverse).2 := by
  have hl := tops_len a b ps
  have key := alo_val (far := far) hb (tops a b ps) (0, 1) 1 (by decide)
  have fix : ∀ (ts : List Int) (s : Int × Int) (p : Int), 0 < s.2 → (1 ≤ ts.length ∨ rd s.1 s.2 = s) → rd (alo b far ts s p).1 (alo b far ts s p).2 = alo b far ts s p := by
    intro ts
    induction ts with
    | nil => intro s p h h'; rcases h' with h' | h'; exact absurd h' (by decide); exact h'
    | cons t ts ih =>
      intro s p h h'
      have hu := rd_pos (t := t) (show 0 < b ^ ts.length from Int.pow_pos hb)
      have hY := Int.mul_pos h hu
      exact ih _ _ (rd_pos hY) (.inr (rd_rd hY))
  rw [← fix _ _ _ (by decide) (.inl (by rw [hl]; exact h1)), key.2, hl, hor_ev]
  have e := (shf_all a ps.length (scf b 0 ps) (scf_len b 0 ps)).1 (b * far)
  show rd (0 * b ^ ps.length + 1 * 1 * b * ev (b * far) (shf a ps.length (scf b 0 ps))) (1 * b ^ ps.length) = rd (ev (a + far * b) (scf b 0 ps) * b) (b ^ ps.length)
  rw [e, Int.add_comm (b * far) a, Int.mul_comm b far]
  congr 1
  · rw [Int.zero_mul, Int.zero_add, Int.one_mul, Int.one_mul, Int.mul_comm]
  · rw [Int.one_mul]
end Z

namespace Z
open PySem PySem.Spec PyProof.Rows L2 DL
/-! ### the law's value of a polynomial -/
def F_Lvalue : FD := ⟨fun as P _ => ∃ (ps : List Int) (a b : Int), as = [.dat (iTup ps), .dat (fr (a, b))] ∧ PolyOk ps ∧ 1 ≤ ps.length ∧ FrOk a b ∧ P (fr (rd ((hor a b ps.reverse).1 * b) (hor a b ps.reverse).2)),
  fun as P P' Z Z' k _ ⟨ps, a, b, e, h1, h2, h3, h⟩ => ⟨ps, a, b, e, h1, h2, h3, k _ h⟩⟩
/-! _law_value -/
abbrev s_Lvalue : Stmt := top 27
abbrev n_Lvalue : List Str := ["_law_poly_here", "_law_number_here", "_law_total", "_law_power", "_law_x"]
theorem sc_Lvalue : FnScope n_Lvalue ["_law_poly_here", "_law_number_here"] (defScope s_Lvalue) := ⟨rfl, rfl, rfl, by decide +kernel, rfl, by decide +kernel, by decide +kernel⟩
def t_Lvalue (px : XP) : TSD :=
  (sSeq (sAsg (.tup [2, 3]) (dTup (lCons (tCD (.int 0)) (lCons (tCD (.int 1)) lNil))))
    (sSeq (sFor (iT (dUn gRevT (tValD 0))) (.nm 4) (sSeq (sSet 2 (dBi gAdd (dBi gMul (tValD 2) (dBi gIx (tValD 1) (tCD (.int 0)))) (dBi gMul (tValD 4) (tValD 3))))
    (sSet 3 (dBi gMul (tValD 3) (dBi gIx (tValD 1) (tCD (.int 1)))))))
    (sRet (tCallD F_Lreduced px (aCons (tValD 2) (aCons (dBi gDiv (tValD 3) (dBi gIx (tValD 1) (tCD (.int 1)))) aNil))))))
set_option maxHeartbeats 4000000 in
theorem d_Lvalue {G : Around → Prop} {P : Program} {w : World} {K : PySem.W.Frag} {mg : Str → Option Value} {base : Heap} {k : Nat} (B : Blt mg) {f : Addr} {cdv : Value} {A : Around} {outer : List Env} {s : Shared} {H : Hp} {E : XK} {C : Ct} {px : XP}
    (hr : Room k (A.deeper (envOfC "_law_value" (defScope s_Lvalue) s.heap.objs.size f cdv))) (hG : G (A.deeper (envOfC "_law_value" (defScope s_Lvalue) s.heap.objs.size f cdv))) (hx : XO (cxOf (L2.CX P w) P w K mg base n_Lvalue "_law_value" (defScope s_Lvalue) f cdv A outer s H E) C px (L2.CX P w) E) (c_Lreduced : Cal G P w K mg base k "_law_reduced" ["_law_top", "_law_bottom"] C.q.w F_Lreduced) :
    PSDs (cxOf (L2.CX P w) P w K mg base n_Lvalue "_law_value" (defScope s_Lvalue) f cdv A outer s H E) C (defBody s_Lvalue) (t_Lvalue px) :=
  have nd := sc_Lvalue.nd
  (pssd_cons (psd_asg (.tup [2, 3]) (pd_tup (ds_cons pd_int (ds_cons pd_int ds_nil))) (pg_tup rfl (pgs_cons (pg_name (i := 2) nd rfl (.inl rfl)) (pgs_cons (pg_name (i := 3) nd rfl (.inl rfl)) pgs_nil))))
    (pssd_cons (psd_for (.nm 4) own_of rfl (di_tup (pd_revT (PO.of (pd_var (i := 0))))) (pg_name (i := 4) nd rfl (.inl rfl)) (pssd_cons (psd_set 2 nd (pd_add (PO.of (pd_mul (PO.of (pd_var (i := 2))) (PO.of (pd_ix (PO.of (pd_var (i := 1))) (PO.of pd_int))))) (PO.of (pd_mul (PO.of (pd_var (i := 4))) (PO.of (pd_var (i := 3)))))))
    (pssd_one (psd_set 3 nd (pd_mul (PO.of (pd_var (i := 3))) (PO.of (pd_ix (PO.of (pd_var (i := 1))) (PO.of pd_int))))))))
    (pssd_one (psd_ret (pd_call c_Lreduced hr hG hx (by rfl) (da_cons (pd_var (i := 2)) (da_cons (pd_div (PO.of (pd_var (i := 3))) (PO.of (pd_ix (PO.of (pd_var (i := 1))) (PO.of pd_int)))) da_nil)))))))
theorem loop_lvalue {D : EndsD} {a b : Int} {o0 : Slot} (hf : FrOk a b) : ∀ (cs : List Int) (n : Nat) (s : Int × Int) (o : Slot), n + cs.length ≤ 13 → (∀ c ∈ cs, Sm 70 c) → Sm (72 + 22 * n) s.1 → Sm (1 + 20 * n) s.2 →
    (∀ o', D.nx [o0, .val (fr (a, b)), .val (.int (cs.foldl (hst a b) s).1), .val (.int (cs.foldl (hst a b) s).2), o']) →
    forD (.nm 4) (sSeq (sSet 2 (dBi gAdd (dBi gMul (tValD 2) (dBi gIx (tValD 1) (tCD (.int 0)))) (dBi gMul (tValD 4) (tValD 3)))) (sSet 3 (dBi gMul (tValD 3) (dBi gIx (tValD 1) (tCD (.int 1)))))) D (cs.map .int) [o0, .val (fr (a, b)), .val (.int s.1), .val (.int s.2), o]
  | [], n, s, o, _, _, _, _, k => k o
  | c :: cs, n, s, o, hn, hc, h1, h2, k => by
    have hn' : n + (cs.length + 1) ≤ 13 := hn
    have e1 := h1.mul hf.sa
    have c0 := hc c List.mem_cons_self
    have h3 : Sm (72 + 22 * (n + 1)) (hst a b s c).1 := by
      have e2 : Sm (70 + (1 + 20 * n)) (c * s.2) := c0.mul h2
      exact ((e1.le (b := 93 + 22 * n) (by omega)).add (e2.le (b := 93 + 22 * n) (by omega))).le (by omega)
    have h4 : Sm (1 + 20 * (n + 1)) (hst a b s c).2 := (h2.mul hf.sb).le (by omega)
    refine ⟨.int a, rfl, h1.cmul hf.sa (by omega), c0.cmul h2 (by omega), .int b, rfl, h2.cmul hf.sb (by omega), ?_⟩
    exact loop_lvalue hf cs (n + 1) (hst a b s c) _ (by omega) (fun x hx => hc x (List.mem_cons_of_mem _ hx)) h3 h4 k
theorem r_Lvalue (px : XP) (as : List DL.Arg) (Q : D → Prop) (h : F_Lvalue.run as Q px) : t_Lvalue px { nx := fun _ => Q .none, rt := Q } (startD n_Lvalue as) := by
  obtain ⟨ps, a, b, rfl, hp, h1, hf, h⟩ := h
  have hn := hp.n
  refine ⟨(by show 2 ≤ sizeLine; decide), rfl, ?_⟩
  show forD (.nm 4) _ _ (ps.map .int).reverse _
  rw [← List.map_reverse]
  refine loop_lvalue hf ps.reverse 0 (0, 1) _ (by rw [List.length_reverse]; omega) (fun c hc => hp.c c (List.mem_reverse.mp hc)) Sm.zero (Sm.one (by decide)) fun o' => ?_
  have e : List.foldl (hst a b) (0, 1) ps.reverse = (ev a (scf b 0 ps), b ^ ps.length) := hor_ev a b ps
  rw [hor_ev] at h
  rw [e]
  obtain ⟨m, hm⟩ : ∃ m, ps.length = m + 1 := ⟨ps.length - 1, by omega⟩
  have hbm : 0 < b ^ m := Int.pow_pos hf.sp
  have ed : b ^ ps.length / b = b ^ m := by
    rw [hm, Int.pow_succ]
    exact Int.mul_ediv_cancel _ (by have := hf.sp; omega)
  have er : rd (ev a (scf b 0 ps) * b) (b ^ ps.length) = rd (ev a (scf b 0 ps)) (b ^ m) := by
    rw [hm, Int.pow_succ]
    exact rd_scale _ _ hf.sp
  have h : Q (fr (rd (ev a (scf b 0 ps) * b) (b ^ ps.length))) := h
  rw [er] at h
  refine ⟨.int b, rfl, hf.sb.cdiv hf.sp (by decide), ev a (scf b 0 ps), b ^ ps.length / b, rfl, ?_, ?_, ?_⟩
  · rw [ed]; exact hbm
  · rw [ed]; exact (pow_sm hf.sb m).le (by omega)
  · rw [ed]; exact h
/-! ### the law's moved polynomial -/
def F_Lmoved : FD := ⟨fun as P _ => ∃ (ps : List Int) (a b : Int), as = [.dat (iTup ps), .dat (fr (a, b))] ∧ PolyOk ps ∧ 1 ≤ ps.length ∧ FrOk a b ∧ P (.tuple (mvp a b ps)),
  fun as P P' Z Z' k _ ⟨ps, a, b, e, h1, h2, h3, h⟩ => ⟨ps, a, b, e, h1, h2, h3, k _ h⟩⟩
/-! _law_moved -/
abbrev s_Lmoved : Stmt := top 28
abbrev n_Lmoved : List Str := ["_law_poly_here", "_law_number_here", "_law_scaled", "_law_powers", "_law_x", "_law_at", "_law_turn"]
theorem sc_Lmoved : FnScope n_Lmoved ["_law_poly_here", "_law_number_here"] (defScope s_Lmoved) := ⟨rfl, rfl, rfl, by decide +kernel, rfl, by decide +kernel, by decide +kernel⟩
def t_Lmoved (px : XP) : TSD :=
  (sSeq (sPar [2, 3] (mOwn (dLst lNil) (mOwn (dLst (lCons (tCD (.int 1)) lNil)) mNil)))
    (sSeq (sFor (iT (dSl gSlT (tValD 0) (oSome (tCD (.int 1))) oNone)) (.nm 4) (sAppend 3 (dBi gMul (dBi gIx (tOwnD 3) (dUn gNeg (tCD (.int 1)))) (dBi gIx (tValD 1) (tCD (.int 1))))))
    (sSeq (sFor (iEnumT (tValD 0)) (.tup [5, 4]) (sAppend 2 (dBi gMul (tValD 4) (dBi gIx (tOwnD 3) (dBi gSub (dBi gSub (dUn gLen (tValD 0)) (tCD (.int 1))) (tValD 5))))))
    (sSeq (sFor (iR1 (dUn gLen (tValD 0))) (.nm 6) (sFor (iR3 (dBi gSub (dUn gLen (tValD 0)) (tCD (.int 2))) (dBi gSub (tValD 6) (tCD (.int 1))) (dUn gNeg (tCD (.int 1)))) (.nm 5) (sStore 2 (dBi gAdd (dBi gIx (tOwnD 2) (tValD 5)) (dBi gMul (dBi gIx (tValD 1) (tCD (.int 0))) (dBi gIx (tOwnD 2) (dBi gAdd (tValD 5) (tCD (.int 1)))))) (tValD 5))))
    (sFreeze 2 (sRet (dUn gTuple (dComp (iEnumL (tValD 2)) (.tup [5, 4]) tYesD (tCallD F_Lreduced never (aCons (tValD 4) (aCons (dBi gIx (tOwnD 3) (dBi gSub (dBi gSub (dUn gLen (tValD 0)) (tCD (.int 1))) (tValD 5))) aNil))) [5, 4]))))))))
set_option maxHeartbeats 4000000 in
theorem d_Lmoved {G : Around → Prop} {P : Program} {w : World} {K : PySem.W.Frag} {mg : Str → Option Value} {base : Heap} {k : Nat} (B : Blt mg) {f : Addr} {cdv : Value} {A : Around} {outer : List Env} {s : Shared} {H : Hp} {E : XK} {C : Ct} {px : XP}
    (hr : Room k (A.deeper (envOfC "_law_moved" (defScope s_Lmoved) s.heap.objs.size f cdv))) (hG : G (A.deeper (envOfC "_law_moved" (defScope s_Lmoved) s.heap.objs.size f cdv))) (hx : XO (cxOf (L2.CX P w) P w K mg base n_Lmoved "_law_moved" (defScope s_Lmoved) f cdv A outer s H E) C px (L2.CX P w) E) (c_Lreduced : Cal G P w K mg base k "_law_reduced" ["_law_top", "_law_bottom"] C.q.w F_Lreduced) :
    PSDs (cxOf (L2.CX P w) P w K mg base n_Lmoved "_law_moved" (defScope s_Lmoved) f cdv A outer s H E) C (defBody s_Lmoved) (t_Lmoved px) :=
  have nd := sc_Lmoved.nd
  (pssd_cons (psd_asgM [2, 3] (dm_own (pf_lst ds_nil) (dm_own (pf_lst (ds_cons pd_int ds_nil)) dm_nil)) (pg_tup rfl (pgs_cons (pg_name (i := 2) nd rfl (.inl rfl)) (pgs_cons (pg_name (i := 3) nd rfl (.inr rfl)) pgs_nil))))
    (pssd_cons (psd_for (.nm 4) own_of rfl (di_tup (pd_slT (PO.of (pd_var (i := 0))) (dp_some pd_int) dp_none)) (pg_name (i := 4) nd rfl (.inl rfl)) (pssd_one (psd_append 3 (pd_mul (PO.of (pd_ix (po_own (i := 3)) (PO.of (pd_neg (PO.of pd_int))))) (PO.of (pd_ix (PO.of (pd_var (i := 1))) (PO.of pd_int)))))))
    (pssd_cons (psd_for (.tup [5, 4]) own_of rfl (di_enumT (by rfl) B.enumerate (pd_var (i := 0))) (pg_tup rfl (pgs_cons (pg_name (i := 5) nd rfl (.inl rfl)) (pgs_cons (pg_name (i := 4) nd rfl (.inl rfl)) pgs_nil))) (pssd_one (psd_append 2 (pd_mul (PO.of (pd_var (i := 4))) (PO.of (pd_ix (po_own (i := 3)) (PO.of (pd_sub (PO.of (pd_sub (PO.of (pd_len (by rfl) B.len (PO.of (pd_var (i := 0))))) (PO.of pd_int))) (PO.of (pd_var (i := 5)))))))))))
    (pssd_cons (psd_for (.nm 6) own_of rfl (di_range1 (by rfl) B.range (pd_len (by rfl) B.len (PO.of (pd_var (i := 0))))) (pg_name (i := 6) nd rfl (.inl rfl)) (pssd_one (psd_for (.nm 5) own_of rfl (di_range3 (by rfl) B.range (pd_sub (PO.of (pd_len (by rfl) B.len (PO.of (pd_var (i := 0))))) (PO.of pd_int)) (pd_sub (PO.of (pd_var (i := 6))) (PO.of pd_int)) (pd_neg (PO.of pd_int))) (pg_name (i := 5) nd rfl (.inl rfl)) (pssd_one (psd_store 2 (pd_add (PO.of (pd_ix (po_own (i := 2)) (PO.of (pd_var (i := 5))))) (PO.of (pd_mul (PO.of (pd_ix (PO.of (pd_var (i := 1))) (PO.of pd_int))) (PO.of (pd_ix (po_own (i := 2)) (PO.of (pd_add (PO.of (pd_var (i := 5))) (PO.of pd_int)))))))) (pd_var (i := 5)))))))
    (pssd_freeze 2 (pssd_one (psd_ret (pd_tuple (by rfl) B.tuple (PO.of (PD.ofF (pf_comp (.tup [5, 4]) [("_law_at", 5), ("_law_x", 4)] rfl nd (di_enumL (by rfl) B.enumerate (pd_var (i := 2))) (blk_by (N := n_Lmoved) (sc := defScope s_Lmoved) (by decide +kernel)) (by decide) (fun s H A cl fp => (pg_tup rfl (pgs_cons (pg_name (i := 5) nd rfl (.inl rfl) (.inr rfl)) (pgs_cons (pg_name (i := 4) nd rfl (.inl rfl) (.inr rfl)) pgs_nil)))) (fun s H A cl fp => dts_nil) (fun s H A cl fp => (pd_call c_Lreduced hr hG xo_none (by rfl) (da_cons (pd_var (i := 4)) (da_cons (pd_ix (po_own (i := 3)) (PO.of (pd_sub (PO.of (pd_sub (PO.of (pd_len (by rfl) B.len (PO.of (pd_var (i := 0))))) (PO.of pd_int))) (PO.of (pd_var (i := 5)))))) da_nil)))))))))))))))
def enumF : Nat → List D → List D
  | _, [] => []
  | k, d :: ds => .tuple [.int (k : Nat), d] :: enumF (k + 1) ds
theorem enumF_eq : ∀ (ds : List D) (k : Nat), enumF k ds = (List.range ds.length).map fun i => PyData.tuple [.int ((i + k : Nat) : Int), ds.getD i .none]
  | [], k => rfl
  | d :: ds, k => by
    rw [List.length_cons, List.range_succ_eq_map, List.map_cons, List.map_map]
    show PyData.tuple [.int ((k : Nat) : Int), d] :: enumF (k + 1) ds = _
    rw [enumF_eq ds (k + 1)]
    congr 1
    · rw [Nat.zero_add]; rfl
    · apply List.map_congr_left
      intro i _
      show PyData.tuple [.int ((i + (k + 1) : Nat) : Int), ds.getD i .none] = PyData.tuple [.int ((i + 1 + k : Nat) : Int), (d :: ds).getD (i + 1) .none]
      rw [show i + (k + 1) = i + 1 + k by omega]
      rfl
theorem enumD_F (ds : List D) : enumD ds = enumF 0 ds := (enumF_eq ds 0).symm
def pw (b : Int) (m : Nat) : List Int := (List.range (m + 1)).map fun i => b ^ i
theorem pw_succ (b : Int) (m : Nat) : pw b (m + 1) = pw b m ++ [b ^ (m + 1)] := by
  unfold pw
  rw [List.range_succ (n := m + 1), List.map_append]
  rfl
theorem pw_last (b : Int) (m : Nat) : ∃ l, pw b m = l ++ [b ^ m] ∧ l.length = m := by
  unfold pw
  refine ⟨(List.range m).map fun i => b ^ i, ?_, by simp⟩
  rw [List.range_succ, List.map_append]
  rfl
theorem pw_len (b : Int) (m : Nat) : (pw b m).length = m + 1 := by unfold pw; simp
theorem pw_get (b : Int) (m i : Nat) (h : i ≤ m) : (pw b m)[i]? = some (b ^ i) := by
  unfold pw
  rw [List.getElem?_map, List.getElem?_range (by omega)]
  rfl
theorem at_last (l : List D) (x : D) : L2.atI (l ++ [x]) (-1) = some x := by
  unfold L2.atI L2.ixN
  rw [if_neg (by decide), if_pos (by simp; omega)]
  have e : ((-1 : Int) + ((l ++ [x]).length : Nat)).toNat = l.length := by simp; omega
  rw [e]
  simp
theorem at_pw (b : Int) (m i : Nat) (h : i ≤ m) : L2.atI (il (pw b m)) (i : Int) = some (.int (b ^ i)) := by
  refine L2.atI_nat ?_
  unfold il
  rw [List.getElem?_map, pw_get b m i h]
  rfl
theorem cut_tl (l : List D) : DL.cutD l (some 1) none = l.tail := by
  unfold DL.cutD
  cases l with
  | nil => rfl
  | cons x l =>
    have e : HT.sIx (x :: l).length 0 (some 1) = 1 := by
      unfold HT.sIx
      simp
      try omega
    rw [e]
    show l.take _ = l
    apply List.take_of_length_le
    show l.length ≤ l.length + 1 - 1
    omega
theorem loop_pw {D : EndsD} {a b : Int} {o0 o2 o5 o6 : Slot} (hf : FrOk a b) : ∀ (ds : List DL.D) (m : Nat) (o : Slot), m + ds.length ≤ 12 →
    (∀ o', D.nx [o0, .val (fr (a, b)), o2, .own (il (pw b (m + ds.length))), o', o5, o6]) →
    forD (.nm 4) (sAppend 3 (dBi gMul (dBi gIx (tOwnD 3) (dUn gNeg (tCD (.int 1)))) (dBi gIx (tValD 1) (tCD (.int 1))))) D ds [o0, .val (fr (a, b)), o2, .own (il (pw b m)), o, o5, o6]
  | [], m, o, _, k => k o
  | d :: ds, m, o, hm, k => by
    have hm' : m + (ds.length + 1) ≤ 12 := hm
    obtain ⟨l, el, hl⟩ := pw_last b m
    have e1 : L2.atI (il (pw b m)) (-1) = some (.int (b ^ m)) := by
      rw [el, il_app]
      exact at_last _ _
    have e2 : il (pw b m) ++ [PyData.int (b ^ m * b)] = il (pw b (m + 1)) := by
      rw [pw_succ, il_app, Int.pow_succ]
      rfl
    have hlen : (il (pw b m)).length < sizeLine := by
      rw [il_len, pw_len]
      exact Nat.lt_of_lt_of_le (show m + 1 < 14 by omega) (by decide)
    refine ⟨.int (b ^ m), e1, .int b, rfl, (pow_sm hf.sb m).cmul hf.sb (by omega), hlen, ?_⟩
    have ih := loop_pw (D := D) (o0 := o0) (o2 := o2) (o5 := o5) (o6 := o6) hf ds (m + 1) (.val d) (by omega) (fun o' => by
      have := k o'
      rw [List.length_cons, show m + (ds.length + 1) = m + 1 + ds.length by omega] at this
      exact this)
    rw [← e2] at ih
    exact ih
theorem loop_scl {D : EndsD} {a b : Int} {ps : List Int} {o6 : Slot} (hf : FrOk a b) (n : Nat) (hn : n ≤ 13) (hps : ps.length = n) : ∀ (cs : List Int) (k : Nat) (acc : List Int) (o4 o5 : Slot), k + cs.length = n → acc.length = k → (∀ c ∈ cs, Sm 70 c) →
    (∀ o4 o5, D.nx [.val (iTup ps), .val (fr (a, b)), .own (il (acc ++ scf b 0 cs)), .own (il (pw b (n - 1))), o4, o5, o6]) →
    forD (.tup [5, 4]) (sAppend 2 (dBi gMul (tValD 4) (dBi gIx (tOwnD 3) (dBi gSub (dBi gSub (dUn gLen (tValD 0)) (tCD (.int 1))) (tValD 5))))) D (enumF k (il cs)) [.val (iTup ps), .val (fr (a, b)), .own (il acc), .own (il (pw b (n - 1))), o4, o5, o6]
  | [], k, acc, o4, o5, _, _, _, q => by
    have := q o4 o5
    rw [show scf b 0 [] = [] from rfl, List.append_nil] at this
    exact this
  | c :: cs, k, acc, o4, o5, hk, ha, hc, q => by
    have hk' : k + (cs.length + 1) = n := hk
    have e1 : ((ps.map PyData.int).length : Int) - 1 - ((k : Nat) : Int) = ((cs.length : Nat) : Int) := by rw [List.length_map, hps]; omega
    have e2 : L2.atI (il (pw b (n - 1))) (((ps.map PyData.int).length : Int) - 1 - ((k : Nat) : Int)) = some (.int (b ^ cs.length)) := by
      rw [e1]
      exact at_pw b (n - 1) cs.length (by omega)
    have hlen : (il acc).length < sizeLine := by
      rw [il_len, ha]
      exact Nat.lt_of_lt_of_le (show k < 14 by omega) (by decide)
    refine ⟨rfl, .int (b ^ cs.length), e2, (hc c List.mem_cons_self).cmul (pow_sm hf.sb cs.length) (by omega), hlen, ?_⟩
    have e3 : il acc ++ [PyData.int (c * b ^ cs.length)] = il (acc ++ [c * b ^ cs.length]) := by rw [il_app]; rfl
    have ih := loop_scl (D := D) (ps := ps) (o6 := o6) hf n hn hps cs (k + 1) (acc ++ [c * b ^ cs.length]) (.val (.int c)) (.val (.int ((k : Nat) : Int))) (by omega) (by simp; omega) (fun x hx => hc x (List.mem_cons_of_mem _ hx)) (fun o4 o5 => by
      have := q o4 o5
      rw [List.append_assoc]
      exact this)
    rw [← e3] at ih
    exact ih
theorem loop_hrn2 {D : EndsD} {a b : Int} {o0 o3 o4 o6 : Slot} (ha : Sm 20 a) (pre : List Int) {e : Nat} : ∀ (rs : List Int) (z : Int) (l : List Int) (j : Nat) (o : Slot), (∀ x ∈ rs, Sm e x) → (∀ x ∈ z :: l, Sm (e + 21 * j) x) → e + 21 * (j + rs.length) < 900000 →
    (∀ o', D.nx [o0, .val (fr (a, b)), .own (il (pre ++ hrn a rs (z :: l))), o3, o4, o', o6]) →
    forD (.nm 5) (sStore 2 (dBi gAdd (dBi gIx (tOwnD 2) (tValD 5)) (dBi gMul (dBi gIx (tValD 1) (tCD (.int 0))) (dBi gIx (tOwnD 2) (dBi gAdd (tValD 5) (tCD (.int 1)))))) (tValD 5)) D (rangeD ((pre.length : Int) + rs.length - 1) (-1) rs.length)
      [o0, .val (fr (a, b)), .own (il (pre ++ (rs.reverse ++ z :: l))), o3, o4, o, o6]
  | [], z, l, j, o, _, _, _, k => k o
  | r :: rs, z, l, j, o, hr, hl, hb, k => by
    have hb' : e + 21 * (j + (rs.length + 1)) < 900000 := hb
    have e0 : il (pre ++ ((r :: rs).reverse ++ z :: l)) = il (pre ++ rs.reverse) ++ .int r :: .int z :: il l := by
      rw [List.reverse_cons, List.append_assoc, ← List.append_assoc, il_app]
      rfl
    have e1 : (pre.length : Int) + ((rs.length + 1 : Nat) : Int) - 1 = (il (pre ++ rs.reverse)).length := by rw [il_len, List.length_append, List.length_reverse]; omega
    show forD _ _ _ (rangeD ((pre.length : Int) + ((rs.length + 1 : Nat) : Int) - 1) (-1) (rs.length + 1)) _
    rw [rangeD_succ, e0, e1]
    have hz := hl z List.mem_cons_self
    refine ⟨.int r, at_mid _ _ _, .int a, rfl, .int z, at_mid1 _ _ _ _, ha.cmul hz (by omega), _, ix_mid _ _ _, ?_⟩
    rw [set_mid]
    have hn : Sm (e + 21 * (j + 1)) (r + a * z) := by
      have q1 : Sm (e + 21 * j + 20) r := (hr r List.mem_cons_self).le (by omega)
      exact (q1.add ((ha.mul hz).le (by omega))).le (by omega)
    have e2 : il (pre ++ rs.reverse) ++ PyData.int (r + a * z) :: .int z :: il l = il (pre ++ (rs.reverse ++ (r + a * z) :: z :: l)) := by unfold il; simp
    have e3 : ((il (pre ++ rs.reverse)).length : Int) + -1 = (pre.length : Int) + rs.length - 1 := by rw [il_len, List.length_append, List.length_reverse]; omega
    rw [e2, e3]
    exact loop_hrn2 ha pre rs (r + a * z) (z :: l) (j + 1) _ (fun x hx => hr x (List.mem_cons_of_mem _ hx)) (fun x hx => by
      rcases List.mem_cons.mp hx with rfl | hx
      · exact hn
      · exact (hl x hx).le (by omega)) (by omega) k
theorem loop_shf2 {D : EndsD} {a b : Int} {ps : List Int} {o3 o4 : Slot} (ha : Sm 20 a) : ∀ (m : Nat) (l pre : List Int) (e : Nat) (o o' : Slot), l.length = m → pre.length + m = ps.length → ps.length ≤ 13 → (∀ x ∈ l, Sm e x) → e + 273 * m < 9000 →
    (∀ o o', D.nx [.val (iTup ps), .val (fr (a, b)), .own (il (pre ++ shf a m l)), o3, o4, o, o']) →
    forD (.nm 6) (sFor (iR3 (dBi gSub (dUn gLen (tValD 0)) (tCD (.int 2))) (dBi gSub (tValD 6) (tCD (.int 1))) (dUn gNeg (tCD (.int 1)))) (.nm 5) (sStore 2 (dBi gAdd (dBi gIx (tOwnD 2) (tValD 5)) (dBi gMul (dBi gIx (tValD 1) (tCD (.int 0))) (dBi gIx (tOwnD 2) (dBi gAdd (tValD 5) (tCD (.int 1)))))) (tValD 5))) D
      (rangeD (pre.length : Int) 1 m) [.val (iTup ps), .val (fr (a, b)), .own (il (pre ++ l)), o3, o4, o, o']
  | 0, l, pre, e, o, o', hl, hn, hm, hs, hb, k => by
    have : l = [] := List.length_eq_zero_iff.mp hl
    subst this
    exact k o o'
  | m + 1, l, pre, e, o, o', hl, hn, hm, hs, hb, k => by
    rw [rangeD_succ]
    cases hr : l.reverse with
    | nil =>
      rw [← List.length_reverse, hr] at hl
      cases hl
    | cons z rs =>
      have el : l = rs.reverse ++ [z] := by
        have := congrArg List.reverse hr
        rw [List.reverse_reverse, List.reverse_cons] at this
        exact this
      have hrl : rs.length = m := by
        rw [el, List.length_append, List.length_reverse] at hl
        simpa using hl
      have hlen : ((ps.map PyData.int).length : Int) = (pre.length : Int) + m + 1 := by rw [List.length_map]; omega
      refine ⟨m, ?_, ?_⟩
      · have q := RgC.neg (i := ((ps.map PyData.int).length : Int) - 2) (j := (pre.length : Int) - 1) (by omega) (by omega) (by omega) (by omega)
        have e1 : (((ps.map PyData.int).length : Int) - 2 - ((pre.length : Int) - 1)).toNat = m := by omega
        rw [e1] at q
        exact q
      · have e2 : ((ps.map PyData.int).length : Int) - 2 = (pre.length : Int) + rs.length - 1 := by omega
        show forD _ _ _ (rangeD (((ps.map PyData.int).length : Int) - 2) (-1) m) _
        rw [e2, el, ← hrl]
        have hs' : ∀ x ∈ rs, Sm e x := fun x hx => hs x (by rw [el]; exact List.mem_append_left _ (List.mem_reverse.mpr hx))
        have hz : Sm e z := hs z (by rw [el]; simp)
        have hh := hrn_sm ha (e := e) rs [z] 0 hs' (fun x hx => by rw [List.mem_singleton.mp hx]; exact hz)
        refine loop_hrn2 ha pre rs z [] 0 _ hs' (fun x hx => by rw [List.mem_singleton.mp hx]; exact hz) (by omega) fun o2 => ?_
        have hlh := hrn_len a rs [z] (List.cons_ne_nil _ _)
        cases hy : hrn a rs [z] with
        | nil =>
          rw [hy] at hlh
          simp at hlh
        | cons y ys =>
          rw [hy] at hh hlh
          have hyl : ys.length = m := by simp at hlh; omega
          have e3 : shf a (m + 1) l = y :: shf a m ys := shf_step hr hy
          have e4 : pre ++ y :: ys = (pre ++ [y]) ++ ys := by simp
          have e5 : (pre.length : Int) + 1 = ((pre ++ [y]).length : Int) := by simp
          rw [e4, e5]
          rw [hrl]
          refine loop_shf2 ha m ys (pre ++ [y]) (e + 273) _ _ hyl (by simp; omega) hm (fun x hx => (hh x (List.mem_cons_of_mem _ hx)).le (by omega)) (by omega) fun o o' => ?_
          have := k o o'
          rw [e3] at this
          rw [List.append_assoc]
          exact this
def fMv (b : Int) (n : Nat) : D → Option D
  | .tuple [.int k, .int t] => some (fr (rd t (b ^ (n - 1 - k.toNat))))
  | _ => none
theorem fMv_two (b : Int) (n : Nat) (k t : Int) : fMv b n (.tuple [.int k, .int t]) = some (fr (rd t (b ^ (n - 1 - k.toNat)))) := rfl
theorem fMv_map (b : Int) (n : Nat) : ∀ (ts : List Int) (k : Nat), k + ts.length = n → (enumF k (il ts)).filterMap (fMv b n) = mpl b ts
  | [], _, _ => rfl
  | t :: ts, k, h => by
    have h' : k + (ts.length + 1) = n := h
    show (PyData.tuple [.int ((k : Nat) : Int), .int t] :: enumF (k + 1) (il ts)).filterMap (fMv b n) = _
    rw [List.filterMap_cons_some (fMv_two b n _ t), fMv_map b n ts (k + 1) (by omega), Int.toNat_natCast, show n - 1 - k = ts.length by omega]
    rfl
theorem enumF_mem {d : D} : ∀ {ts : List D} {k : Nat}, d ∈ enumF k ts → ∃ (i : Nat) (x : D), k ≤ i ∧ i < k + ts.length ∧ ts[i - k]? = some x ∧ d = .tuple [.int ((i : Nat) : Int), x]
  | [], _, h => nomatch h
  | t :: ts, k, h => by
    rcases List.mem_cons.mp h with rfl | h
    · exact ⟨k, t, Nat.le_refl _, by rw [List.length_cons]; omega, by rw [Nat.sub_self]; rfl, rfl⟩
    · obtain ⟨i, x, h1, h2, h3, rfl⟩ := enumF_mem h
      refine ⟨i, x, by omega, by rw [List.length_cons]; omega, ?_, rfl⟩
      rw [show i - k = (i - (k + 1)) + 1 by omega]
      exact h3
theorem enumF_len : ∀ (ts : List D) (k : Nat), (enumF k ts).length = ts.length
  | [], _ => rfl
  | t :: ts, k => by show (enumF (k + 1) ts).length + 1 = _; rw [enumF_len ts (k + 1)]; rfl
theorem r_Lmoved (px : XP) (as : List DL.Arg) (Q : D → Prop) (h : F_Lmoved.run as Q px) : t_Lmoved px { nx := fun _ => Q .none, rt := Q } (startD n_Lmoved as) := by
  obtain ⟨ps, a, b, rfl, hp, h1, hf, h⟩ := h
  have hn := hp.n
  have htl := tops_len a b ps
  refine ⟨Nat.zero_le _, (by show 1 ≤ sizeLine; decide), rfl, ?_⟩
  show forD (.nm 4) _ _ (DL.cutD (ps.map .int) (some 1) none) _
  rw [cut_tl]
  have hln : ((ps.map PyData.int).tail).length = ps.length - 1 := by rw [List.length_tail, List.length_map]
  have e0 : [PyData.int 1] = il (pw b 0) := by
    show [PyData.int 1] = [PyData.int (b ^ 0)]
    rw [Int.pow_zero]
  show forD (.nm 4) _ _ _ [.val (iTup ps), .val (fr (a, b)), .own [], .own [PyData.int 1], .un, .un, .un]
  rw [e0]
  refine loop_pw (a := a) (b := b) (o0 := .val (iTup ps)) (o2 := .own []) (o5 := .un) (o6 := .un) hf _ 0 .un (by rw [hln]; omega) fun o' => ?_
  rw [hln, Nat.zero_add]
  show forD (.tup [5, 4]) _ _ (enumD (il ps)) _
  rw [enumD_F]
  refine loop_scl (o6 := .un) hf ps.length hn rfl ps 0 [] o' .un (by omega) rfl hp.c fun o4 o5 => ?_
  rw [List.nil_append]
  refine ⟨⟨by show -(2 ^ 62) ≤ ((ps.map PyData.int).length : Int); rw [List.length_map]; omega, by rw [List.length_map]; omega⟩, ?_⟩
  show forD _ _ _ (rangeD 0 1 (((ps.map PyData.int).length : Int)).toNat) _
  rw [Int.toNat_natCast, List.length_map]
  refine loop_shf2 (ps := ps) hf.sa ps.length (scf b 0 ps) [] 340 o5 .un (scf_len b 0 ps) (by simp) hn (scf_sm hf.sb ps hn hp.c) (by omega) fun o o' => ?_
  show compD (.tup [5, 4]) _ _ _ (enumD (il (tops a b ps))) [] _
  rw [enumD_F]
  refine comp_pure (fMv b ps.length) _ [] (fun d hd R r => ?_) ?_ ?_
  · obtain ⟨i, x, h2, h3, h4, rfl⟩ := enumF_mem hd
    rw [il_len, htl] at h3
    obtain ⟨t, ht, rfl⟩ : ∃ t, (tops a b ps)[i - 0]? = some t ∧ x = .int t := by
      unfold il at h4
      rw [List.getElem?_map] at h4
      cases e : (tops a b ps)[i - 0]? with
      | none => rw [e] at h4; cases h4
      | some t => rw [e] at h4; exact ⟨t, rfl, (Option.some.inj h4).symm⟩
    rw [fMv_two, Int.toNat_natCast] at r
    have e1 : ((ps.map PyData.int).length : Int) - 1 - ((i : Nat) : Int) = ((ps.length - 1 - i : Nat) : Int) := by rw [List.length_map]; omega
    have e2 : L2.atI (il (pw b (ps.length - 1))) (((ps.map PyData.int).length : Int) - 1 - ((i : Nat) : Int)) = some (.int (b ^ (ps.length - 1 - i))) := by
      rw [e1]
      exact at_pw b (ps.length - 1) _ (by omega)
    exact ⟨rfl, .int _, e2, t, _, rfl, Int.pow_pos hf.sp, (pow_sm hf.sb _).le (by omega), r⟩
  · rw [enumF_len, il_len, htl]
    exact Nat.le_trans (show 0 + ps.length ≤ 13 by omega) (by decide)
  · rw [List.nil_append, fMv_map b ps.length _ 0 (by rw [htl]; omega)]
    exact h
end Z

namespace Z
open PySem PySem.Spec PyProof.Rows L2 DL
/-! ### the law's count of changes -/
def F_Lchanges : FD := ⟨fun as P _ => ∃ ds : List D, as = [.dat (.tuple ds)] ∧ ds.length ≤ 60 ∧ (∀ d ∈ ds, isFr d = true) ∧ P (.int (chg (sgn (ds.map topD)) : Nat)), fun as P P' Z Z' k _ ⟨ds, e, h1, h2, h⟩ => ⟨ds, e, h1, h2, k _ h⟩⟩
/-! _law_changes -/
abbrev s_Lchanges : Stmt := top 29
abbrev n_Lchanges : List Str := ["_law_numbers", "_law_signs", "_law_number_here", "_law_at", "_law_sign"]
theorem sc_Lchanges : FnScope n_Lchanges ["_law_numbers"] (defScope s_Lchanges) := ⟨rfl, rfl, rfl, by decide +kernel, rfl, by decide +kernel, by decide +kernel⟩
def t_Lchanges (px : XP) : TSD :=
  (sSeq (sSet 1 (dComp (iT (tValD 0)) (.nm 2) (tTestD (dBi (gEqS true) (dBi gIx (tValD 2) (tCD (.int 0))) (tCD (.int 0)))) (dBi gGt (dBi gIx (tValD 2) (tCD (.int 0))) (tCD (.int 0))) [2]))
    (sRet (dUn gLen (dComp (iEnumL (tValD 1)) (.tup [3, 4]) (tAndD (tTestD (dBi gGt (tValD 3) (tCD (.int 0)))) (tTestD (dBi (gEqS true) (dBi gIx (tValD 1) (dBi gSub (tValD 3) (tCD (.int 1)))) (tValD 4)))) (tCD (.int 1)) [3, 4]))))
set_option maxHeartbeats 4000000 in
theorem d_Lchanges {G : Around → Prop} {P : Program} {w : World} {K : PySem.W.Frag} {mg : Str → Option Value} {base : Heap} {k : Nat} (B : Blt mg) {f : Addr} {cdv : Value} {A : Around} {outer : List Env} {s : Shared} {H : Hp} {E : XK} {C : Ct} {px : XP}
    (hr : Room k (A.deeper (envOfC "_law_changes" (defScope s_Lchanges) s.heap.objs.size f cdv))) (hG : G (A.deeper (envOfC "_law_changes" (defScope s_Lchanges) s.heap.objs.size f cdv))) (hx : XO (cxOf (L2.CX P w) P w K mg base n_Lchanges "_law_changes" (defScope s_Lchanges) f cdv A outer s H E) C px (L2.CX P w) E) :
    PSDs (cxOf (L2.CX P w) P w K mg base n_Lchanges "_law_changes" (defScope s_Lchanges) f cdv A outer s H E) C (defBody s_Lchanges) (t_Lchanges px) :=
  have nd := sc_Lchanges.nd
  (pssd_cons (psd_set 1 nd (PD.ofF (pf_comp (.nm 2) [("_law_number_here", 2)] rfl nd (di_tup (pd_var (i := 0))) (blk_by (N := n_Lchanges) (sc := defScope s_Lchanges) (by decide +kernel)) (by decide) (fun s H A cl fp => (pg_name (i := 2) nd rfl (.inl rfl) (.inr rfl))) (fun s H A cl fp => (dts_one (dt_neS (PO.of (pd_ix (PO.of (pd_var (i := 2))) (PO.of pd_int))) (PO.of pd_int)))) (fun s H A cl fp => (pd_gt (PO.of (pd_ix (PO.of (pd_var (i := 2))) (PO.of pd_int))) (PO.of pd_int))))))
    (pssd_one (psd_ret (pd_len (by rfl) B.len (PO.of (PD.ofF (pf_comp (.tup [3, 4]) [("_law_at", 3), ("_law_sign", 4)] rfl nd (di_enumL (by rfl) B.enumerate (pd_var (i := 1))) (blk_by (N := n_Lchanges) (sc := defScope s_Lchanges) (by decide +kernel)) (by decide) (fun s H A cl fp => (pg_tup rfl (pgs_cons (pg_name (i := 3) nd rfl (.inl rfl) (.inr rfl)) (pgs_cons (pg_name (i := 4) nd rfl (.inl rfl) (.inr rfl)) pgs_nil)))) (fun s H A cl fp => (dts_one (dt_bool (dw_and (dt_gt (PO.of (pd_var (i := 3))) (PO.of pd_int)) (dw_and1 (dt_neS (PO.of (pd_ix (PO.of (pd_var (i := 1))) (PO.of (pd_sub (PO.of (pd_var (i := 3))) (PO.of pd_int))))) (PO.of (pd_var (i := 4))))))))) (fun s H A cl fp => pd_int))))))))
def fTs : D → Option D := fun d => fSgn (.int (topD d))
theorem fTs_map (ds : List D) : ds.filterMap fTs = bl (sgn (ds.map topD)) := by
  rw [← fSgn_map]
  unfold il
  rw [List.filterMap_map, List.filterMap_map]
  rfl
def fCh (l : List Bool) : D → Option D
  | .tuple [.int k, .bool s] => if 0 < k then (match l[(k - 1).toNat]? with
    | some r => if (!decide (r = s)) = true then some (.int 1) else none
    | none => none) else none
  | _ => none
theorem fCh_two (l : List Bool) (k : Int) (s : Bool) : fCh l (.tuple [.int k, .bool s]) = if 0 < k then (match l[(k - 1).toNat]? with
    | some r => if (!decide (r = s)) = true then some (.int 1) else none
    | none => none) else none := rfl
theorem chg_cons (x y : Bool) (r : List Bool) : chg (x :: y :: r) = (if x = y then 0 else 1) + chg (y :: r) := by
  unfold chg
  show (((x, y) :: (y :: r).zip r).filter fun p => p.1 != p.2).length = _
  by_cases e : x = y
  · rw [List.filter_cons_of_neg (by simp [e]), if_pos e, Nat.zero_add]; rfl
  · rw [List.filter_cons_of_pos (by simp [e]), if_neg e, List.length_cons, Nat.add_comm]; rfl
theorem fCh_len (l : List Bool) : ∀ (r p : List Bool) (x : Bool), l = p ++ x :: r → ((enumF (p.length + 1) (bl r)).filterMap (fCh l)).length = chg (x :: r)
  | [], p, x, _ => rfl
  | y :: r, p, x, h => by
    have ih := fCh_len l r (p ++ [x]) y (by rw [h, List.append_assoc]; rfl)
    rw [List.length_append] at ih
    have ih : ((enumF (p.length + 1 + 1) (bl r)).filterMap (fCh l)).length = chg (y :: r) := ih
    have hg : l[(((p.length + 1 : Nat) : Int) - 1).toNat]? = some x := by
      rw [show (((p.length + 1 : Nat) : Int) - 1).toNat = p.length by omega, h]
      simp
    have hk : 0 < ((p.length + 1 : Nat) : Int) := by omega
    have e : fCh l (.tuple [.int ((p.length + 1 : Nat) : Int), .bool y]) = if (!decide (x = y)) = true then some (.int 1) else none := by
      rw [fCh_two, if_pos hk, hg]
    show ((PyData.tuple [.int ((p.length + 1 : Nat) : Int), .bool y] :: enumF (p.length + 1 + 1) (bl r)).filterMap (fCh l)).length = _
    rw [chg_cons]
    by_cases q : x = y
    · rw [if_neg (by simp [q])] at e
      rw [List.filterMap_cons_none e, if_pos q, ih, Nat.zero_add]
    · rw [if_pos (by simp [q])] at e
      rw [List.filterMap_cons_some e, List.length_cons, if_neg q, ih, Nat.add_comm]
theorem fCh_all (l : List Bool) : ((enumF 0 (bl l)).filterMap (fCh l)).length = chg l := by
  cases l with
  | nil => rfl
  | cons x r =>
    show ((PyData.tuple [.int ((0 : Nat) : Int), .bool x] :: enumF (0 + 1) (bl r)).filterMap (fCh (x :: r))).length = _
    rw [List.filterMap_cons_none (by rw [fCh_two, if_neg (by decide)])]
    exact fCh_len (x :: r) r [] x rfl
theorem r_Lchanges (px : XP) (as : List DL.Arg) (Q : D → Prop) (h : F_Lchanges.run as Q px) : t_Lchanges px { nx := fun _ => Q .none, rt := Q } (startD n_Lchanges as) := by
  obtain ⟨ds, rfl, hn, hfr, h⟩ := h
  have hn' : 0 + ds.length ≤ sizeLine := Nat.le_trans (show 0 + ds.length ≤ 61 by omega) (by decide)
  refine comp_pure fTs ds [] (fun d hd R r => ?_) hn' ?_
  · obtain ⟨a, b, rfl, _⟩ := isFr_eq (hfr d hd)
    refine ⟨.int a, rfl, ?_⟩
    show if (!decide (a = 0)) = true then _ else _
    have r : R (if (!decide (a = 0)) = true then some (.bool (decide (a > 0))) else none) := r
    by_cases e : (!decide (a = 0)) = true
    · rw [if_pos e] at r ⊢
      exact ⟨.int a, rfl, r⟩
    · rw [if_neg e] at r ⊢
      exact r
  · rw [List.nil_append, fTs_map]
    have hl : (sgn (ds.map topD)).length ≤ 60 := by
      have := sgn_le (ds.map topD)
      rw [List.length_map] at this
      omega
    rw [← fCh_all] at h
    generalize sgn (ds.map topD) = l at hl h
    show compD (.tup [3, 4]) _ _ _ (enumD (bl l)) [] _
    rw [enumD_F]
    have hbl : (bl l).length = l.length := List.length_map _
    refine comp_pure (fCh l) _ [] (fun d hd R r => ?_) ?_ ?_
    · obtain ⟨i, x, h2, h3, h4, rfl⟩ := enumF_mem hd
      rw [hbl] at h3
      obtain ⟨s, hs, rfl⟩ : ∃ s, l[i - 0]? = some s ∧ x = .bool s := by
        unfold bl at h4
        rw [List.getElem?_map] at h4
        cases e : l[i - 0]? with
        | none => rw [e] at h4; cases h4
        | some t => rw [e] at h4; exact ⟨t, rfl, (Option.some.inj h4).symm⟩
      refine ⟨rfl, ?_⟩
      rw [fCh_two] at r
      refine ite_t (b := decide (0 < ((i : Nat) : Int))) (fun e => ?_) (fun e => ?_)
      · have hi : 0 < ((i : Nat) : Int) := of_decide_eq_true e
        have e1 : (((i : Nat) : Int) - 1) = ((i - 1 : Nat) : Int) := by omega
        have hlt : i - 1 < l.length := by omega
        rw [if_pos hi, e1, Int.toNat_natCast, List.getElem?_eq_getElem hlt] at r
        have r : R (if (!decide (l[i - 1] = s)) = true then some (.int 1) else none) := r
        have e2 : L2.atI (bl l) (((i : Nat) : Int) - 1) = some (.bool l[i - 1]) := by
          rw [e1]
          refine L2.atI_nat ?_
          unfold bl
          rw [List.getElem?_map, List.getElem?_eq_getElem hlt]
          rfl
        refine ⟨.bool l[i - 1], e2, ?_⟩
        show if (!decide (l[i - 1] = s)) = true then _ else _
        by_cases q : (!decide (l[i - 1] = s)) = true
        · rw [if_pos q] at r ⊢
          exact r
        · rw [if_neg q] at r ⊢
          exact r
      · have hi : ¬ 0 < ((i : Nat) : Int) := of_decide_eq_false e
        rw [if_neg hi] at r
        exact r
    · rw [enumF_len, hbl]
      exact Nat.le_trans (show 0 + l.length ≤ 61 by omega) (by decide)
    · rw [List.nil_append]
      exact h
/-! ### the value further on -/
theorem sb_fr {p : Int × Int} (h1 : Sm 1900 p.1) (h2 : Sm 1900 p.2) : SB 1209 1 (fr p) := (sb_tup (n := 601) (e := 0) (ds := [.int p.1, .int p.2]) (fun d hd => by
  simp only [List.mem_cons, List.not_mem_nil, or_false] at hd
  rcases hd with rfl | rfl
  · exact sb_int h1
  · exact sb_int h2)).le (by show (601 + 2) * 2 + 3 ≤ 1209; decide) (by decide)
theorem sb_val {a b : Int} (hf : FrOk a b) {ps : List Int} (hp : PolyOk ps) : SB 1209 1 (fr (rd ((hor a b ps.reverse).1 * b) (hor a b ps.reverse).2)) := by
  obtain ⟨s1, s2⟩ := hor_sm1 hf hp
  have e : (hor a b ps.reverse).2 = b ^ ps.length := by rw [hor_ev]
  refine sb_fr (rd_sm1 ((s1.mul hf.sb).le (by decide))) (rd_sm2 ?_)
  rw [e]
  exact s2.le (by decide)
def F_Lis_along : FD := ⟨fun as P _ => ∃ (ps : List Int) (a b far : Int), as = [.dat (iTup ps), .dat (fr (a, b)), .dat (.int far)] ∧ PolyOk ps ∧ 1 ≤ ps.length ∧ Sm 14 a ∧ Sm 5 b ∧ 0 < b ∧ Sm 5 far ∧ P (.bool true),
  fun as P P' Z Z' k _ ⟨ps, a, b, far, e, h1, h2, h3, h4, h5, h6, h⟩ => ⟨ps, a, b, far, e, h1, h2, h3, h4, h5, h6, k _ h⟩⟩
/-! _law_is_along -/
abbrev s_Lis_along : Stmt := top 32
abbrev n_Lis_along : List Str := ["_law_poly_here", "_law_number_here", "_law_far", "_law_total", "_law_power", "_law_top", "_law_under"]
theorem sc_Lis_along : FnScope n_Lis_along ["_law_poly_here", "_law_number_here", "_law_far"] (defScope s_Lis_along) := ⟨rfl, rfl, rfl, by decide +kernel, rfl, by decide +kernel, by decide +kernel⟩
def t_Lis_along (px : XP) : TSD :=
  (sSeq (sAsg (.tup [3, 4]) (dTup (lCons (dTup (lCons (tCD (.int 0)) (lCons (tCD (.int 1)) lNil))) (lCons (tCD (.int 1)) lNil))))
    (sSeq (sFor (iT (tCallD F_moved_poly px (aCons (tValD 0) (aCons (tValD 1) aNil)))) (.tup [5, 6]) (sSeq (sSet 3 (tCallD F_Lreduced px (aCons (dBi gAdd (dBi gMul (dBi gIx (tValD 3) (tCD (.int 0))) (tValD 6)) (dBi gMul (dBi gMul (tValD 5) (tValD 4)) (dBi gIx (tValD 3) (tCD (.int 1))))) (aCons (dBi gMul (dBi gIx (tValD 3) (tCD (.int 1))) (tValD 6)) aNil))))
    (sSet 4 (dBi gMul (tValD 4) (tValD 2)))))
    (sRet (dBi (gEqS false) (dUn gRepr (tCallD F_poly_value px (aCons (tValD 0) (aCons (dTup (lCons (dBi gAdd (dBi gIx (tValD 1) (tCD (.int 0))) (dBi gMul (tValD 2) (dBi gIx (tValD 1) (tCD (.int 1))))) (lCons (dBi gIx (tValD 1) (tCD (.int 1))) lNil))) aNil)))) (dUn gRepr (tValD 3))))))
set_option maxHeartbeats 4000000 in
theorem d_Lis_along {P : Program} {w : World} {K : PySem.W.Frag} {mg : Str → Option Value} {base : Heap} {k : Nat} (B : Blt mg) {f : Addr} {cdv : Value} {A : Around} {outer : List Env} {s : Shared} {H : Hp} {E : XK} {C : Ct} {px : XP}
    (hr : Room k (A.deeper (envOfC "_law_is_along" (defScope s_Lis_along) s.heap.objs.size f cdv))) (hG : NoGu (A.deeper (envOfC "_law_is_along" (defScope s_Lis_along) s.heap.objs.size f cdv))) (hx : XO (cxOf (L2.CX P w) P w K mg base n_Lis_along "_law_is_along" (defScope s_Lis_along) f cdv A outer s H E) C px (L2.CX P w) E) (c_moved_poly : Cal NoGu P w K mg base k "moved_poly" ["poly", "number"] C.q.w F_moved_poly) (c_Lreduced : Cal NoGu P w K mg base k "_law_reduced" ["_law_top", "_law_bottom"] C.q.w F_Lreduced) (c_poly_value : Cal NoGu P w K mg base k "poly_value" ["poly", "number"] C.q.w F_poly_value) :
    PSDs (cxOf (L2.CX P w) P w K mg base n_Lis_along "_law_is_along" (defScope s_Lis_along) f cdv A outer s H E) C (defBody s_Lis_along) (t_Lis_along px) :=
  have nd := sc_Lis_along.nd
  (pssd_cons (psd_asg (.tup [3, 4]) (pd_tup (ds_cons (pd_tup (ds_cons pd_int (ds_cons pd_int ds_nil))) (ds_cons pd_int ds_nil))) (pg_tup rfl (pgs_cons (pg_name (i := 3) nd rfl (.inl rfl)) (pgs_cons (pg_name (i := 4) nd rfl (.inl rfl)) pgs_nil))))
    (pssd_cons (psd_for (.tup [5, 6]) own_of rfl (di_tup (pd_call c_moved_poly hr hG hx (by rfl) (da_cons (pd_var (i := 0)) (da_cons (pd_var (i := 1)) da_nil)))) (pg_tup rfl (pgs_cons (pg_name (i := 5) nd rfl (.inl rfl)) (pgs_cons (pg_name (i := 6) nd rfl (.inl rfl)) pgs_nil))) (pssd_cons (psd_set 3 nd (pd_call c_Lreduced hr hG hx (by rfl) (da_cons (pd_add (PO.of (pd_mul (PO.of (pd_ix (PO.of (pd_var (i := 3))) (PO.of pd_int))) (PO.of (pd_var (i := 6))))) (PO.of (pd_mul (PO.of (pd_mul (PO.of (pd_var (i := 5))) (PO.of (pd_var (i := 4))))) (PO.of (pd_ix (PO.of (pd_var (i := 3))) (PO.of pd_int)))))) (da_cons (pd_mul (PO.of (pd_ix (PO.of (pd_var (i := 3))) (PO.of pd_int))) (PO.of (pd_var (i := 6)))) da_nil))))
    (pssd_one (psd_set 4 nd (pd_mul (PO.of (pd_var (i := 4))) (PO.of (pd_var (i := 2))))))))
    (pssd_one (psd_ret (pd_eqS (PO.of (pd_repr hG (room_u hr) (by rfl) B.repr (PO.of (pd_call c_poly_value hr hG hx (by rfl) (da_cons (pd_var (i := 0)) (da_cons (pd_tup (ds_cons (pd_add (PO.of (pd_ix (PO.of (pd_var (i := 1))) (PO.of pd_int))) (PO.of (pd_mul (PO.of (pd_var (i := 2))) (PO.of (pd_ix (PO.of (pd_var (i := 1))) (PO.of pd_int)))))) (ds_cons (pd_ix (PO.of (pd_var (i := 1))) (PO.of pd_int)) ds_nil))) da_nil)))))) (PO.of (pd_repr hG (room_u hr) (by rfl) B.repr (PO.of (pd_var (i := 3))))))))))
theorem loop_along {D : EndsD} {px : XP} {b far : Int} {o0 o1 : Slot} (hb : 0 < b) (sb : Sm 20 b) (sf : Sm 5 far) : ∀ (ts : List Int) (j : Nat) (s : Int × Int) (p : Int) (o5 o6 : Slot), j + ts.length ≤ 13 → (∀ t ∈ ts, Sm 640 t) → Sm (5000 + 300 * j) s.1 → Sm (1 + 280 * j) s.2 → 0 < s.2 → Sm (1 + 5 * j) p →
    (∀ q o5 o6, D.nx [o0, o1, .val (.int far), .val (fr (alo b far ts s p)), .val (.int q), o5, o6]) →
    forD (.tup [5, 6]) (sSeq (sSet 3 (tCallD F_Lreduced px (aCons (dBi gAdd (dBi gMul (dBi gIx (tValD 3) (tCD (.int 0))) (tValD 6)) (dBi gMul (dBi gMul (tValD 5) (tValD 4)) (dBi gIx (tValD 3) (tCD (.int 1))))) (aCons (dBi gMul (dBi gIx (tValD 3) (tCD (.int 1))) (tValD 6)) aNil))))
    (sSet 4 (dBi gMul (tValD 4) (tValD 2)))) D (mpl b ts) [o0, o1, .val (.int far), .val (fr s), .val (.int p), o5, o6]
  | [], j, s, p, o5, o6, _, _, _, _, _, _, k => k p o5 o6
  | t :: ts, j, s, p, o5, o6, hj, ht, h1, h2, h3, h4, k => by
    have hj' : j + (ts.length + 1) ≤ 13 := hj
    have hq : 0 < b ^ ts.length := Int.pow_pos hb
    have st : Sm 640 (rd t (b ^ ts.length)).1 := rd_sm1 (ht t List.mem_cons_self)
    have su : Sm 280 (rd t (b ^ ts.length)).2 := rd_sm2 ((pow_sm sb ts.length).le (by omega))
    have hu := rd_pos (t := t) hq
    have c1 := h1.mul su
    have c2 := st.mul h4
    have c3 := c2.mul h2
    have c4 := h2.mul su
    have hw : 0 < s.2 * (rd t (b ^ ts.length)).2 := Int.mul_pos h3 hu
    refine ⟨rfl, .int s.1, rfl, h1.cmul su (by omega), st.cmul h4 (by omega), .int s.2, rfl, c2.cmul h2 (by omega), .int s.2, rfl, h2.cmul su (by omega), ?_⟩
    refine ⟨_, _, rfl, hw, c4.le (by omega), h4.cmul sf (by omega), ?_⟩
    have g1 : Sm (5000 + 300 * (j + 1)) (s.1 * (rd t (b ^ ts.length)).2 + (rd t (b ^ ts.length)).1 * p * s.2) := ((c1.le (b := 5000 + 300 * j + 280) (by omega)).add (c3.le (by omega))).le (by omega)
    exact loop_along hb sb sf ts (j + 1) _ (p * far) _ _ (by omega) (fun x hx => ht x (List.mem_cons_of_mem _ hx)) (rd_sm1 g1) (rd_sm2 (c4.le (by omega))) (rd_pos hw) ((h4.mul sf).le (by omega)) k
theorem r_Lis_along (px : XP) (as : List DL.Arg) (Q : D → Prop) (h : F_Lis_along.run as Q px) : t_Lis_along px { nx := fun _ => Q .none, rt := Q } (startD n_Lis_along as) := by
  obtain ⟨ps, a, b, far, rfl, hp, h1, sa, sb, hb, sf, h⟩ := h
  have hn := hp.n
  have hf : FrOk a b := ⟨sa.le (by decide), sb.le (by decide), hb⟩
  have hf2 : FrOk (a + far * b) b := ⟨((sa.add ((sf.mul sb).le (by decide))).le (by decide)), sb.le (by decide), hb⟩
  have s2 : 2 ≤ sizeLine := by decide
  refine ⟨s2, s2, rfl, ps, fr (a, b), rfl, hp, ⟨fun e => ?_, fun a' b' e hb' => ?_⟩⟩
  · have : isFr (fr (a, b)) = true := decide_eq_true hb
    rw [this] at e
    cases e
  · cases e
    refine ⟨hf, ?_⟩
    show forD (.tup [5, 6]) _ _ (mpl b (tops a b ps)) _
    refine loop_along (px := px) hb hf.sb sf (tops a b ps) 0 (0, 1) 1 .un .un (by rw [tops_len]; omega) (tops_sm hf hp) Sm.zero (Sm.one (by decide)) (by decide) (Sm.one (by decide)) fun q o5 o6 => ?_
    rw [alo_is hb h1]
    refine ⟨.int a, rfl, .int b, rfl, sf.cmul sb (by decide), .int b, rfl, s2, ps, fr (a + far * b, b), rfl, hp, ⟨fun e => ?_, fun a' b' e hb' => ?_⟩⟩
    · have : isFr (fr (a + far * b, b)) = true := decide_eq_true hb
      rw [this] at e
      cases e
    · cases e
      refine ⟨hf2, (sb_val hf2 hp).shw (by decide) (by decide), (sb_val hf2 hp).shw (by decide) (by decide), ?_⟩
      show Q (.bool (decide (_ = _)))
      rw [decide_eq_true rfl]
      exact h
end Z

namespace Z
open PySem PySem.Spec PyProof.Rows L2 DL
/-! ### what is told is right -/
theorem mpl_mem {b : Int} {d : D} : ∀ {ts : List Int}, d ∈ mpl b ts → ∃ t k, t ∈ ts ∧ k ≤ ts.length ∧ d = fr (rd t (b ^ k))
  | [], h => nomatch h
  | t :: ts, h => by
    rcases List.mem_cons.mp h with rfl | h
    · exact ⟨t, ts.length, List.mem_cons_self, Nat.le_succ _, rfl⟩
    · obtain ⟨u, k, h1, h2, e⟩ := mpl_mem h
      exact ⟨u, k, List.mem_cons_of_mem _ h1, Nat.le_succ_of_le h2, e⟩
theorem mvp_fr {a b : Int} (hf : FrOk a b) {ps : List Int} (hp : PolyOk ps) {d : D} (h : d ∈ mvp a b ps) : SB 1209 1 d ∧ isFr d = true := by
  obtain ⟨t, k, h1, h2, rfl⟩ := mpl_mem h
  rw [tops_len] at h2
  have hn := hp.n
  exact ⟨sb_fr (rd_sm1 ((tops_sm hf hp t h1).le (by decide))) (rd_sm2 ((pow_sm hf.sb k).le (by omega))), decide_eq_true (rd_pos (Int.pow_pos hf.sp))⟩
theorem mvp_len (a b : Int) (ps : List Int) : (mvp a b ps).length = ps.length := (mpl_len b _).trans (tops_len a b ps)
theorem sb_mvp {a b : Int} (hf : FrOk a b) {ps : List Int} (hp : PolyOk ps) : SB 16000 2 (.tuple (mvp a b ps)) := by
  have hn := hp.n
  have hl := mvp_len a b ps
  exact (sb_tup (n := 1209) (e := 1) (ds := mvp a b ps) fun d hd => (mvp_fr hf hp hd).1).le (by
    have : (1209 + 2) * (mvp a b ps).length ≤ (1209 + 2) * 13 := Nat.mul_le_mul_left _ (by omega)
    omega) (by decide)
theorem sb_fraction : SB 601 0 (.str "fraction") := ⟨rfl, Nat.le_refl _, by decide +kernel⟩
theorem sb_told : SB 601 0 (.str "told") := ⟨rfl, Nat.le_refl _, by decide +kernel⟩
theorem sb_pair {n e : Nat} {x d : D} (hx : SB 601 0 x) (hd : SB n e d) (hn : 601 ≤ n) : SB (2 * n + 7) (e + 1) (.tuple [x, d]) := (sb_tup (n := n) (e := e) (ds := [x, d]) (fun y hy => by
  simp only [List.mem_cons, List.not_mem_nil, or_false] at hy
  rcases hy with rfl | rfl
  · exact hx.le hn (Nat.zero_le _)
  · exact hd)).le (by show (n + 2) * 2 + 3 ≤ _; omega) (Nat.le_refl _)
theorem sb_two {n e : Nat} {x d : D} (hx : SB n e x) (hd : SB n e d) : SB (2 * n + 7) (e + 1) (.list [x, d]) := (sb_list (n := n) (e := e) (ds := [x, d]) (fun y hy => by
  simp only [List.mem_cons, List.not_mem_nil, or_false] at hy
  rcases hy with rfl | rfl <;> assumption)).le (by show (n + 2) * 2 + 3 ≤ _; omega) (Nat.le_refl _)
theorem nA2 : nA 2 = 1009068 := rfl
def F_Lis_right : FD := ⟨fun as P _ => ∃ (ps : List Int) (d : D) (w : Int), as = [.dat (iTup ps), .dat d, .dat (.int w)] ∧ PolyOk ps ∧ 1 ≤ ps.length ∧ SB (nA 2) 6 d ∧ (∀ a b, d = .tuple [.int a, .int b] → 0 < b → FrOk a b) ∧ P (.bool true),
  fun as P P' Z Z' k _ ⟨ps, d, w, e, h1, h2, h3, h4, h⟩ => ⟨ps, d, w, e, h1, h2, h3, h4, k _ h⟩⟩
/-! _law_is_right -/
abbrev s_Lis_right : Stmt := top 31
abbrev n_Lis_right : List Str := ["_law_poly_here", "_law_number_here", "_law_way", "_law_told_here"]
theorem sc_Lis_right : FnScope n_Lis_right ["_law_poly_here", "_law_number_here", "_law_way"] (defScope s_Lis_right) := ⟨rfl, rfl, rfl, by decide +kernel, rfl, by decide +kernel, by decide +kernel⟩
def t_Lis_right (px : XP) : TSD :=
  (sSeq (sSetF 3 (dLst (lCons (tTold (fun px => (tIfD (tTestD (dBi (gEqS false) (tValD 2) (tCD (.int 0)))) (tCallD F_poly_value px (aCons (tValD 0) (aCons (tValD 1) aNil))) (tCallK F_poly_value px [1, 0] (lCons (tValD 1) (lCons (tValD 0) lNil))))) CF "thing" "told" "fraction") lNil)))
    (sSeq (sAppend 3 (tTold (fun px => (tIfD (tTestD (dBi (gEqS false) (tValD 2) (tCD (.int 0)))) (tCallD F_moved_poly px (aCons (tValD 0) (aCons (tValD 1) aNil))) (tCallK F_moved_poly px [1, 0] (lCons (tValD 1) (lCons (tValD 0) lNil))))) CF "thing" "told" "fraction"))
    (sSeq (sIf (tNotD (tTestD (tCallD F_Lis_fraction px (aCons (tValD 1) aNil)))) (sRet (dBi (gEqS false) (dUn gRepr (tOwnD 3)) (dUn gRepr (dBi gRep (dLst (lCons (dTup (lCons (tCD (.str "fraction")) (lCons (tValD 1) lNil))) lNil)) (tCD (.int 2)))))) sNext)
    (sRet (dBi (gEqS false) (dUn gRepr (tOwnD 3)) (dUn gRepr (dLst (lCons (dTup (lCons (tCD (.str "told")) (lCons (tCallD F_Lvalue px (aCons (tValD 0) (aCons (tValD 1) aNil))) lNil))) (lCons (dTup (lCons (tCD (.str "told")) (lCons (tCallD F_Lmoved px (aCons (tValD 0) (aCons (tValD 1) aNil))) lNil))) lNil)))))))))
set_option maxHeartbeats 4000000 in
theorem d_Lis_right {P : Program} {w : World} {K : PySem.W.Frag} {mg : Str → Option Value} {base : Heap} {k : Nat} (B : Blt mg) {f : Addr} {cdv : Value} {A : Around} {outer : List Env} {s : Shared} {H : Hp} {E : XK} {C : Ct} {px : XP}
    (hr : Room k (A.deeper (envOfC "_law_is_right" (defScope s_Lis_right) s.heap.objs.size f cdv))) (hG : NoGu (A.deeper (envOfC "_law_is_right" (defScope s_Lis_right) s.heap.objs.size f cdv))) (hx : XO (cxOf (L2.CX P w) P w K mg base n_Lis_right "_law_is_right" (defScope s_Lis_right) f cdv A outer s H E) C px (L2.CX P w) E) (l_poly_value : Cal Tru P w K mg base (k - 2) "poly_value" ["poly", "number"] C.q.w F_poly_value) (l_moved_poly : Cal Tru P w K mg base (k - 2) "moved_poly" ["poly", "number"] C.q.w F_moved_poly) (q_poly_value : CalK Tru P w K mg base (k - 2) "poly_value" ["poly", "number"] ["number", "poly"] [1, 0] C.q.w F_poly_value) (q_moved_poly : CalK Tru P w K mg base (k - 2) "moved_poly" ["poly", "number"] ["number", "poly"] [1, 0] C.q.w F_moved_poly) (hk2 : 2 ≤ k) (TO : ToldF K mg "_law_told" "_law_deed" "e" "BadFraction" s_Ltold CF "thing") {cc PP : Addr} (LF : LamF mg base C.q.w (("_law_is_right" : Str) ++ ".<locals>.") cdv cc PP) (c_Lis_fraction : Cal NoGu P w K mg base k "_law_is_fraction" ["_law_thing"] C.q.w F_Lis_fraction) (c_Lvalue : Cal NoGu P w K mg base k "_law_value" ["_law_poly_here", "_law_number_here"] C.q.w F_Lvalue) (c_Lmoved : Cal NoGu P w K mg base k "_law_moved" ["_law_poly_here", "_law_number_here"] C.q.w F_Lmoved) :
    PSDs (cxOf (L2.CX P w) P w K mg base n_Lis_right "_law_is_right" (defScope s_Lis_right) f cdv A outer s H E) C (defBody s_Lis_right) (t_Lis_right px) :=
  have nd := sc_Lis_right.nd
  (pssd_cons (psd_setF 3 nd (pf_lst (ds_cons (pd_toldZ TO LF hr hk2 (tb := fun px => (tIfD (tTestD (dBi (gEqS false) (tValD 2) (tCD (.int 0)))) (tCallD F_poly_value px (aCons (tValD 0) (aCons (tValD 1) aNil))) (tCallK F_poly_value px [1, 0] (lCons (tValD 1) (lCons (tValD 0) lNil))))) (by rfl) (LamX.lamS_by (sc := defScope s_Lis_right) (by decide +kernel)) (by rfl) (fun _ _ _ _ _ => rfl) (fun A outer s H E f c C2 px hq hr hx => (pd_ifE (dt_eqS (PO.of (pd_var (i := 2))) (PO.of pd_int)) (pd_call (hq ▸ l_poly_value) hr True.intro hx (by rfl) (da_cons (pd_var (i := 0)) (da_cons (pd_var (i := 1)) da_nil))) (pd_callK (hq ▸ q_poly_value) hr True.intro hx (by rfl) (dq_cons (pd_var (i := 1)) (dq_cons (pd_var (i := 0)) dq_nil))))) (xm_if (mo_test (mo_bi mo_gEqS (mo_val 2) (mo_c _))) (xm_call' (mo_acons (mo_val 0) (mo_acons (mo_val 1) mo_anil))) (xm_callK (mo_lcons (mo_val 1) (mo_lcons (mo_val 0) mo_lnil)))) (fun px => (show MonoE (tIfD (tTestD (dBi (gEqS false) (tValD 2) (tCD (.int 0)))) (tCallD F_poly_value px (aCons (tValD 0) (aCons (tValD 1) aNil))) (tCallK F_poly_value px [1, 0] (lCons (tValD 1) (lCons (tValD 0) lNil)))) from (mo_if (mo_test (mo_bi mo_gEqS (mo_val 2) (mo_c _))) (mo_call (mo_acons (mo_val 0) (mo_acons (mo_val 1) mo_anil))) (mo_callK (mo_lcons (mo_val 1) (mo_lcons (mo_val 0) mo_lnil))))))) ds_nil)))
    (pssd_cons (psd_append 3 (pd_toldZ TO LF hr hk2 (tb := fun px => (tIfD (tTestD (dBi (gEqS false) (tValD 2) (tCD (.int 0)))) (tCallD F_moved_poly px (aCons (tValD 0) (aCons (tValD 1) aNil))) (tCallK F_moved_poly px [1, 0] (lCons (tValD 1) (lCons (tValD 0) lNil))))) (by rfl) (LamX.lamS_by (sc := defScope s_Lis_right) (by decide +kernel)) (by rfl) (fun _ _ _ _ _ => rfl) (fun A outer s H E f c C2 px hq hr hx => (pd_ifE (dt_eqS (PO.of (pd_var (i := 2))) (PO.of pd_int)) (pd_call (hq ▸ l_moved_poly) hr True.intro hx (by rfl) (da_cons (pd_var (i := 0)) (da_cons (pd_var (i := 1)) da_nil))) (pd_callK (hq ▸ q_moved_poly) hr True.intro hx (by rfl) (dq_cons (pd_var (i := 1)) (dq_cons (pd_var (i := 0)) dq_nil))))) (xm_if (mo_test (mo_bi mo_gEqS (mo_val 2) (mo_c _))) (xm_call' (mo_acons (mo_val 0) (mo_acons (mo_val 1) mo_anil))) (xm_callK (mo_lcons (mo_val 1) (mo_lcons (mo_val 0) mo_lnil)))) (fun px => (show MonoE (tIfD (tTestD (dBi (gEqS false) (tValD 2) (tCD (.int 0)))) (tCallD F_moved_poly px (aCons (tValD 0) (aCons (tValD 1) aNil))) (tCallK F_moved_poly px [1, 0] (lCons (tValD 1) (lCons (tValD 0) lNil)))) from (mo_if (mo_test (mo_bi mo_gEqS (mo_val 2) (mo_c _))) (mo_call (mo_acons (mo_val 0) (mo_acons (mo_val 1) mo_anil))) (mo_callK (mo_lcons (mo_val 1) (mo_lcons (mo_val 0) mo_lnil))))))))
    (pssd_cons (psd_if (dt_not (dt_val (pd_call c_Lis_fraction hr hG hx (by rfl) (da_cons (pd_var (i := 1)) da_nil)))) (pssd_one (psd_ret (pd_eqS (PO.of (pd_repr hG (room_u hr) (by rfl) B.repr (po_own (i := 3)))) (PO.of (pd_repr hG (room_u hr) (by rfl) B.repr (PO.of (PD.ofF (pf_rep (PO.of (PD.ofF (pf_lst (ds_cons (pd_tup (ds_cons pd_str (ds_cons (pd_var (i := 1)) ds_nil))) ds_nil)))) (PO.of pd_int))))))))) pssd_nil)
    (pssd_one (psd_ret (pd_eqS (PO.of (pd_repr hG (room_u hr) (by rfl) B.repr (po_own (i := 3)))) (PO.of (pd_repr hG (room_u hr) (by rfl) B.repr (PO.of (PD.ofF (pf_lst (ds_cons (pd_tup (ds_cons pd_str (ds_cons (pd_call c_Lvalue hr hG hx (by rfl) (da_cons (pd_var (i := 0)) (da_cons (pd_var (i := 1)) da_nil))) ds_nil))) (ds_cons (pd_tup (ds_cons pd_str (ds_cons (pd_call c_Lmoved hr hG hx (by rfl) (da_cons (pd_var (i := 0)) (da_cons (pd_var (i := 1)) da_nil))) ds_nil))) ds_nil)))))))))))))
theorem r_Lis_right (px : XP) (as : List DL.Arg) (Q : D → Prop) (h : F_Lis_right.run as Q px) : t_Lis_right px { nx := fun _ => Q .none, rt := Q } (startD n_Lis_right as) := by
  obtain ⟨ps, d, w, rfl, hp, h1, sd, hfd, h⟩ := h
  have s1 : 1 ≤ sizeLine := by decide
  have s1' : 1 < sizeLine := by decide
  have s2 : 2 ≤ sizeLine := by decide
  have fin : ∀ x : Str, gEqS false (.str x) (.str x) Q := fun x => by
    show Q (.bool (decide (x = x)))
    rw [decide_eq_true rfl]
    exact h
  cases e : isFr d with
  | false =>
    have no : ∀ {P : Prop} {a b : Int}, d = .tuple [.int a, .int b] → 0 < b → P := fun {P a b} ed hb => by
      rw [ed, show isFr (.tuple [.int a, .int b]) = true from decide_eq_true hb] at e
      cases e
    have hS : Shw (.list [.tuple [.str "fraction", d], .tuple [.str "fraction", d]]) := (sb_two (sb_pair sb_fraction sd (by rw [nA2]; decide)) (sb_pair sb_fraction sd (by rw [nA2]; decide))).shw (by rw [nA2]; decide) (by decide)
    refine (fun h => ite_t (b := decide (w = 0)) (fun _ => h) (fun _ => h)) ?_
    refine ⟨ps, d, rfl, hp, ⟨fun _ => ⟨rfl, rfl, s1, ?_⟩, fun a b ed hb => no ed hb⟩⟩
    refine (fun h => ite_t (b := decide (w = 0)) (fun _ => h) (fun _ => h)) ?_
    refine ⟨ps, d, rfl, hp, ⟨fun _ => ⟨rfl, rfl, s1', ?_⟩, fun a b ed hb => no ed hb⟩⟩
    refine ⟨d, rfl, ?_⟩
    show (if (!isFr d) = true then _ else _)
    rw [e]
    exact ⟨hS, s2, s1, ⟨by decide, by decide, (by show 1 * 2 ≤ sizeLine; decide)⟩, hS, fin _⟩
  | true =>
    obtain ⟨a, b, rfl, hb⟩ := isFr_eq e
    have hf := hfd a b rfl hb
    have hS : Shw (.list [.tuple [.str "told", fr (rd ((hor a b ps.reverse).1 * b) (hor a b ps.reverse).2)], .tuple [.str "told", .tuple (mvp a b ps)]]) :=
      (sb_two (sb_pair (n := 16000) (e := 2) sb_told ((sb_val hf hp).le (by decide) (by decide)) (by decide)) (sb_pair (n := 16000) (e := 2) sb_told (sb_mvp hf hp) (by decide))).shw (by decide) (by decide)
    have no : ∀ {P : Prop}, isFr (.tuple [.int a, .int b]) = false → P := fun {P} z => by rw [e] at z; cases z
    refine (fun h => ite_t (b := decide (w = 0)) (fun _ => h) (fun _ => h)) ?_
    refine ⟨ps, _, rfl, hp, ⟨fun z => no z, fun a' b' ed hb' => ?_⟩⟩
    cases ed
    refine ⟨hf, s1, ?_⟩
    refine (fun h => ite_t (b := decide (w = 0)) (fun _ => h) (fun _ => h)) ?_
    refine ⟨ps, _, rfl, hp, ⟨fun z => no z, fun a' b' ed hb' => ?_⟩⟩
    cases ed
    refine ⟨hf, s1', ?_⟩
    refine ⟨_, rfl, ?_⟩
    show (if (!isFr (.tuple [.int a, .int b])) = true then _ else _)
    rw [e]
    exact ⟨hS, ps, a, b, rfl, hp, h1, hf, s2, ps, a, b, rfl, hp, h1, hf, s2, s2, hS, fin _⟩
/-! ### what is counted is right -/
def fBad : D → Option D := fun d => if (!isFr d) = true then some d else none
theorem bad_none {ds : List D} (h : badOf ds = none) : ds.filterMap fBad = [] := by
  induction ds with
  | nil => rfl
  | cons d ds ih =>
    have hd := badOf_none h d List.mem_cons_self
    have hr : badOf ds = none := by
      have : (if isFr d = true then badOf ds else some d) = none := h
      rwa [if_pos hd] at this
    rw [List.filterMap_cons_none (by unfold fBad; rw [hd]; rfl), ih hr]
theorem bad_some {ds : List D} {d : D} (h : badOf ds = some d) : d ∈ ds ∧ ∃ r, ds.filterMap fBad = d :: r := by
  induction ds with
  | nil => cases h
  | cons x ds ih =>
    have h : (if isFr x = true then badOf ds else some x) = some d := h
    cases e : isFr x with
    | true =>
      rw [if_pos e] at h
      obtain ⟨h1, r, h2⟩ := ih h
      exact ⟨List.mem_cons_of_mem _ h1, r, by rw [List.filterMap_cons_none (by unfold fBad; rw [e]; rfl), h2]⟩
    | false =>
      rw [if_neg (by rw [e]; decide)] at h
      cases h
      exact ⟨List.mem_cons_self, _, List.filterMap_cons_some (by unfold fBad; rw [e]; rfl)⟩
theorem chg_le (l : List Bool) : chg l ≤ l.length := by
  unfold chg
  refine Nat.le_trans (List.length_filter_le _ _) ?_
  rw [List.length_zip]
  omega
def F_Lis_counted : FD := ⟨fun as P _ => ∃ (ds : List D) (w : Int), as = [.dat (.tuple ds), .dat (.int w)] ∧ ds.length ≤ 60 ∧ (∀ d ∈ ds, SB (nA 2) 6 d) ∧ P (.bool true), fun as P P' Z Z' k _ ⟨ds, w, e, h1, h2, h⟩ => ⟨ds, w, e, h1, h2, k _ h⟩⟩
/-! _law_is_counted -/
abbrev s_Lis_counted : Stmt := top 33
abbrev n_Lis_counted : List Str := ["_law_numbers", "_law_way", "_law_told_here", "_law_wrong", "_law_number_here"]
theorem sc_Lis_counted : FnScope n_Lis_counted ["_law_numbers", "_law_way"] (defScope s_Lis_counted) := ⟨rfl, rfl, rfl, by decide +kernel, rfl, by decide +kernel, by decide +kernel⟩
def t_Lis_counted (px : XP) : TSD :=
  (sSeq (sSet 2 (tTold (fun px => (tIfD (tTestD (dBi (gEqS false) (tValD 1) (tCD (.int 0)))) (tCallD F_sign_changes px (aCons (tValD 0) aNil)) (tCallK F_sign_changes px [0] (lCons (tValD 0) lNil)))) CF "thing" "told" "fraction"))
    (sSeq (sSet 3 (dComp (iT (tValD 0)) (.nm 4) (tNotD (tTestD (tCallD F_Lis_fraction never (aCons (tValD 4) aNil)))) (tValD 4) [4]))
    (sSeq (sIf (tTestD (dEqNil true (tValD 3))) (sRet (dBi (gEqS false) (dUn gRepr (tValD 2)) (dUn gRepr (dTup (lCons (tCD (.str "fraction")) (lCons (dBi gIx (tValD 3) (tCD (.int 0))) lNil)))))) sNext)
    (sRet (dBi (gEqS false) (dUn gRepr (tValD 2)) (dUn gRepr (dTup (lCons (tCD (.str "told")) (lCons (tCallD F_Lchanges px (aCons (tValD 0) aNil)) lNil)))))))))
set_option maxHeartbeats 4000000 in
theorem d_Lis_counted {P : Program} {w : World} {K : PySem.W.Frag} {mg : Str → Option Value} {base : Heap} {k : Nat} (B : Blt mg) {f : Addr} {cdv : Value} {A : Around} {outer : List Env} {s : Shared} {H : Hp} {E : XK} {C : Ct} {px : XP}
    (hr : Room k (A.deeper (envOfC "_law_is_counted" (defScope s_Lis_counted) s.heap.objs.size f cdv))) (hG : NoGu (A.deeper (envOfC "_law_is_counted" (defScope s_Lis_counted) s.heap.objs.size f cdv))) (hx : XO (cxOf (L2.CX P w) P w K mg base n_Lis_counted "_law_is_counted" (defScope s_Lis_counted) f cdv A outer s H E) C px (L2.CX P w) E) (l_sign_changes : Cal Tru P w K mg base (k - 2) "sign_changes" ["numbers"] C.q.w F_sign_changes) (q_sign_changes : CalK Tru P w K mg base (k - 2) "sign_changes" ["numbers"] ["numbers"] [0] C.q.w F_sign_changes) (hk2 : 2 ≤ k) (TO : ToldF K mg "_law_told" "_law_deed" "e" "BadFraction" s_Ltold CF "thing") {cc PP : Addr} (LF : LamF mg base C.q.w (("_law_is_counted" : Str) ++ ".<locals>.") cdv cc PP) (c_Lis_fraction : Cal NoGu P w K mg base k "_law_is_fraction" ["_law_thing"] C.q.w F_Lis_fraction) (c_Lchanges : Cal NoGu P w K mg base k "_law_changes" ["_law_numbers"] C.q.w F_Lchanges) :
    PSDs (cxOf (L2.CX P w) P w K mg base n_Lis_counted "_law_is_counted" (defScope s_Lis_counted) f cdv A outer s H E) C (defBody s_Lis_counted) (t_Lis_counted px) :=
  have nd := sc_Lis_counted.nd
  (pssd_cons (psd_set 2 nd (pd_toldZ TO LF hr hk2 (tb := fun px => (tIfD (tTestD (dBi (gEqS false) (tValD 1) (tCD (.int 0)))) (tCallD F_sign_changes px (aCons (tValD 0) aNil)) (tCallK F_sign_changes px [0] (lCons (tValD 0) lNil)))) (by rfl) (LamX.lamS_by (sc := defScope s_Lis_counted) (by decide +kernel)) (by rfl) (fun _ _ _ _ _ => rfl) (fun A outer s H E f c C2 px hq hr hx => (pd_ifE (dt_eqS (PO.of (pd_var (i := 1))) (PO.of pd_int)) (pd_call (hq ▸ l_sign_changes) hr True.intro hx (by rfl) (da_cons (pd_var (i := 0)) da_nil)) (pd_callK (hq ▸ q_sign_changes) hr True.intro hx (by rfl) (dq_cons (pd_var (i := 0)) dq_nil)))) (xm_if (mo_test (mo_bi mo_gEqS (mo_val 1) (mo_c _))) (xm_call' (mo_acons (mo_val 0) mo_anil)) (xm_callK (mo_lcons (mo_val 0) mo_lnil))) (fun px => (show MonoE (tIfD (tTestD (dBi (gEqS false) (tValD 1) (tCD (.int 0)))) (tCallD F_sign_changes px (aCons (tValD 0) aNil)) (tCallK F_sign_changes px [0] (lCons (tValD 0) lNil))) from (mo_if (mo_test (mo_bi mo_gEqS (mo_val 1) (mo_c _))) (mo_call (mo_acons (mo_val 0) mo_anil)) (mo_callK (mo_lcons (mo_val 0) mo_lnil)))))))
    (pssd_cons (psd_setLc 3 (.nm 4) [("_law_number_here", 4)] rfl nd (di_tup (pd_var (i := 0))) (blk_by (N := n_Lis_counted) (sc := defScope s_Lis_counted) (by decide +kernel)) (by decide) (fun s H A cl fp => (pg_name (i := 4) nd rfl (.inl rfl) (.inr rfl))) (fun s H A cl fp => (dts_one (dt_not (dt_val (pd_call c_Lis_fraction hr hG xo_none (by rfl) (da_cons (pd_var (i := 4)) da_nil)))))) (fun s H A cl fp => (pd_var (i := 4))))
    (pssd_cons (psd_if (dt_neNil (room_u hr) (PO.of (pd_var (i := 3)))) (pssd_one (psd_ret (pd_eqS (PO.of (pd_repr hG (room_u hr) (by rfl) B.repr (PO.of (pd_var (i := 2))))) (PO.of (pd_repr hG (room_u hr) (by rfl) B.repr (PO.of (pd_tup (ds_cons pd_str (ds_cons (pd_ix (PO.of (pd_var (i := 3))) (PO.of pd_int)) ds_nil))))))))) pssd_nil)
    (pssd_one (psd_ret (pd_eqS (PO.of (pd_repr hG (room_u hr) (by rfl) B.repr (PO.of (pd_var (i := 2))))) (PO.of (pd_repr hG (room_u hr) (by rfl) B.repr (PO.of (pd_tup (ds_cons pd_str (ds_cons (pd_call c_Lchanges hr hG hx (by rfl) (da_cons (pd_var (i := 0)) da_nil)) ds_nil))))))))))))
theorem r_Lis_counted (px : XP) (as : List DL.Arg) (Q : D → Prop) (h : F_Lis_counted.run as Q px) : t_Lis_counted px { nx := fun _ => Q .none, rt := Q } (startD n_Lis_counted as) := by
  obtain ⟨ds, w, rfl, hn, sd, h⟩ := h
  have s2 : 2 ≤ sizeLine := by decide
  have hn' : 0 + ds.length ≤ sizeLine := Nat.le_trans (show 0 + ds.length ≤ 61 by omega) (by decide)
  have fin : ∀ x : Str, gEqS false (.str x) (.str x) Q := fun x => by
    show Q (.bool (decide (x = x)))
    rw [decide_eq_true rfl]
    exact h
  have items : ∀ d ∈ ds, ∀ (ρ : List Slot) (hρ : ρ.length = 5) (R : Option D → Prop), R (fBad d) → bindT (.nm 4) d ρ fun ρ2 => (tNotD (tTestD (tCallD F_Lis_fraction never (aCons (tValD 4) aNil)))) ρ2 fun b => if b = true then (tValD 4) ρ2 fun y => R (some y) else R none := fun d _ ρ hρ R r => by
    match ρ, hρ with
    | [x0, x1, x2, x3, x4], _ =>
    refine ⟨d, rfl, ?_⟩
    show (if (!isFr d) = true then _ else _)
    have r : R (if (!isFr d) = true then some d else none) := r
    cases e : isFr d with
    | true => rw [e] at r; exact r
    | false => rw [e] at r; exact r
  refine (fun h => ite_t (b := decide (w = 0)) (fun _ => h) (fun _ => h)) ?_
  refine ⟨ds, rfl, hn, ?_⟩
  cases hb : badOf ds with
  | some d =>
    obtain ⟨hm, r, hr⟩ := bad_some hb
    have hS : Shw (.tuple [.str "fraction", d]) := (sb_pair sb_fraction (sd d hm) (by rw [nA2]; decide)).shw (by rw [nA2]; decide) (by decide)
    refine ⟨rfl, rfl, ?_⟩
    refine comp_pure fBad ds [] (fun d hd R r => items d hd _ rfl R r) hn' ?_
    rw [List.nil_append, hr]
    exact ⟨hS, d, at_mid [] d r, s2, hS, fin _⟩
  | none =>
    have hc : Sm 1900 ((chg (sgn (ds.map topD)) : Nat) : Int) := by
      have h1 := chg_le (sgn (ds.map topD))
      have h2 := sgn_le (ds.map topD)
      rw [List.length_map] at h2
      exact Sm.le (a := 14) (by unfold Sm; show chg (sgn (ds.map topD)) < 16384; omega) (by decide)
    have hS : Shw (.tuple [.str "told", .int ((chg (sgn (ds.map topD)) : Nat) : Int)]) := (sb_pair sb_told (sb_int hc) (by decide)).shw (by decide) (by decide)
    refine comp_pure fBad ds [] (fun d hd R r => items d hd _ rfl R r) hn' ?_
    rw [List.nil_append, bad_none hb]
    exact ⟨hS, ds, rfl, hn, badOf_none hb, s2, hS, fin _⟩
end Z

namespace Z
open PySem PySem.Spec PyProof.Rows L2 DL
/-! ### the law read -/
/-! law -/
abbrev s_law : Stmt := top 34
abbrev n_law : List Str := ["_law_script", "_law_deck_here", "_law_turn", "_law_poly_here", "_law_number_here", "_law_way", "_law_odd_here", "_law_near", "_law_thing", "_law_small", "_law_numbers", "_law_at", "_law_bent"]
theorem sc_law : FnScope n_law ["_law_script"] (defScope s_law) := ⟨rfl, rfl, rfl, by decide +kernel, rfl, by decide +kernel, by decide +kernel⟩
def t_law (px : XP) : TSD :=
  (sSeq (sFor (iR1 (tCD (.int 3))) (.nm 2) (sSeq (sPar [3, 4, 5] (mVal (tCallD F_Lpoly px (aSlot 1 aNil)) (mVal (tCallD F_Lfraction px (aSlot 1 aNil)) (mVal (dBi gAnd (tValD 2) (tCD (.int 1))) mNil))))
    (sSeq (sPar [6, 7] (mVal (tCallD F_Lodd px (aSlot 1 (aCons (tValD 4) aNil))) (mVal (tCallD F_Lreduced px (aCons (dBi gIx (tValD 4) (tCD (.int 0))) (aCons (dBi gIx (tValD 4) (tCD (.int 1))) aNil))) mNil)))
    (sSeq (sFor (iT (dTup (lCons (tValD 4) (lCons (tValD 7) (lCons (tValD 6) lNil))))) (.nm 8) (sIf (tNotD (tTestD (tCallD F_Lis_right px (aCons (tValD 3) (aCons (tValD 8) (aCons (tValD 5) aNil)))))) (sRet (tCD (.bool false))) sNext))
    (sSeq (sSet 9 (tCallD F_Lpick px (aSlot 1 (aCons (dLst (lCons (dTup (lCons (dBi gDiv (dBi gIx (tValD 4) (tCD (.int 0))) (tCD (.int 1000))) (lCons (tCD (.int 1)) lNil))) (lCons (dTup (lCons (dBi gSub (tCallD F_Ldraw px (aSlot 1 (aCons (tCD (.int 25)) aNil))) (tCD (.int 12))) (lCons (dBi gAdd (tCD (.int 1)) (tCallD F_Ldraw px (aSlot 1 (aCons (tCD (.int 9)) aNil)))) lNil))) lNil))) aNil))))
    (sSeq (sIf (tNotD (tTestD (tCallD F_Lis_along px (aCons (tValD 3) (aCons (tValD 9) (aCons (dBi gSub (tCallD F_Ldraw px (aSlot 1 (aCons (tCD (.int 21)) aNil))) (tCD (.int 10))) aNil)))))) (sRet (tCD (.bool false))) sNext)
    (sSeq (sSet 10 (dUn gTuple (dComp (iR1 (tCallD F_Ldraw px (aSlot 1 (aCons (tCD (.int 11)) aNil)))) (.nm 11) tYesD (tCallD F_Lfraction never (aSlot 1 aNil)) [11])))
    (sSeq (sIf (tOrD (tNotD (tTestD (tCallD F_Lis_counted px (aCons (tValD 10) (aCons (tValD 5) aNil))))) (tNotD (tTestD (tCallD F_Lis_counted px (aCons (dBi gAdd (dUn gRevT (tValD 10)) (tValD 10)) (aCons (tValD 5) aNil)))))) (sRet (tCD (.bool false))) sNext)
    (sSeq (sSet 11 (tCallD F_Ldraw px (aSlot 1 (aCons (dBi gAdd (dUn gLen (tValD 10)) (tCD (.int 1))) aNil))))
    (sSeq (sSet 12 (dBi gAdd (dBi gAdd (dSl gSlT (tValD 10) oNone (oSome (tValD 11))) (dTup (lCons (tCallD F_Lodd px (aSlot 1 (aCons (tValD 4) aNil))) lNil))) (dSl gSlT (tValD 10) (oSome (tValD 11)) oNone)))
    (sSeq (sIf (tOrD (tNotD (tTestD (tCallD F_Lis_counted px (aCons (tValD 12) (aCons (tValD 5) aNil))))) (tNotD (tTestD (tCallD F_Lis_counted px (aCons (dBi gAdd (dSl gSlT (tValD 12) (oSome (tValD 11)) oNone) (dTup (lCons (tValD 6) lNil))) (aCons (dBi gSub (tCD (.int 1)) (tValD 5)) aNil)))))) (sRet (tCD (.bool false))) sNext)
    (sIf (tNotD (tTestD (tCallD F_Lis_counted px (aCons (tCallD F_moved_poly px (aCons (tValD 3) (aCons (tValD 4) aNil))) (aCons (dBi gSub (tCD (.int 1)) (tValD 5)) aNil))))) (sRet (tCD (.bool false))) sNext))))))))))))
    (sRet (tCD (.bool true))))
set_option maxHeartbeats 4000000 in
theorem d_law {G : Around → Prop} {P : Program} {w : World} {K : PySem.W.Frag} {mg : Str → Option Value} {base : Heap} {k : Nat} (B : Blt mg) {f : Addr} {cdv : Value} {A : Around} {outer : List Env} {s : Shared} {H : Hp} {E : XK} {C : Ct} {px : XP}
    (hr : Room k (A.deeper (envOfC "law" (defScope s_law) s.heap.objs.size f cdv))) (hG : G (A.deeper (envOfC "law" (defScope s_law) s.heap.objs.size f cdv))) (hx : XO (cxOf (L2.CX P w) P w K mg base n_law "law" (defScope s_law) f cdv A outer s H E) C px (L2.CX P w) E) (c_Lpoly : Cal G P w K mg base k "_law_poly" ["_law_deck_here"] C.q.w F_Lpoly) (c_Lfraction : Cal G P w K mg base k "_law_fraction" ["_law_deck_here"] C.q.w F_Lfraction) (c_Lodd : Cal G P w K mg base k "_law_odd" ["_law_deck_here", "_law_number_here"] C.q.w F_Lodd) (c_Lreduced : Cal G P w K mg base k "_law_reduced" ["_law_top", "_law_bottom"] C.q.w F_Lreduced) (c_Lis_right : Cal G P w K mg base k "_law_is_right" ["_law_poly_here", "_law_number_here", "_law_way"] C.q.w F_Lis_right) (c_Lpick : Cal G P w K mg base k "_law_pick" ["_law_deck_here", "_law_some"] C.q.w F_Lpick) (c_Ldraw : Cal G P w K mg base k "_law_draw" ["_law_deck_here", "_law_many"] C.q.w F_Ldraw) (c_Lis_along : Cal G P w K mg base k "_law_is_along" ["_law_poly_here", "_law_number_here", "_law_far"] C.q.w F_Lis_along) (c_Lis_counted : Cal G P w K mg base k "_law_is_counted" ["_law_numbers", "_law_way"] C.q.w F_Lis_counted) (c_moved_poly : Cal G P w K mg base k "moved_poly" ["poly", "number"] C.q.w F_moved_poly) :
    PSDs (cxOf (L2.CX P w) P w K mg base n_law "law" (defScope s_law) f cdv A outer s H E) C ((defBody s_law).drop 1) (t_law px) :=
  have nd := sc_law.nd
  (pssd_cons (psd_for (.nm 2) own_of rfl (di_range1 (by rfl) B.range pd_int) (pg_name (i := 2) nd rfl (.inl rfl)) (pssd_cons (psd_par3 rfl nd (dm_val (pd_call c_Lpoly hr hG hx (by rfl) (da_slot (i := 1) da_nil)) (dm_val (pd_call c_Lfraction hr hG hx (by rfl) (da_slot (i := 1) da_nil)) (dm_val (pd_and_i (PO.of (pd_var (i := 2))) (PO.of pd_int)) dm_nil))))
    (pssd_cons (psd_par rfl nd (dm_val (pd_call c_Lodd hr hG hx (by rfl) (da_slot (i := 1) (da_cons (pd_var (i := 4)) da_nil))) (dm_val (pd_call c_Lreduced hr hG hx (by rfl) (da_cons (pd_ix (PO.of (pd_var (i := 4))) (PO.of pd_int)) (da_cons (pd_ix (PO.of (pd_var (i := 4))) (PO.of pd_int)) da_nil))) dm_nil)))
    (pssd_cons (psd_for (.nm 8) own_of rfl (di_tup (pd_tup (ds_cons (pd_var (i := 4)) (ds_cons (pd_var (i := 7)) (ds_cons (pd_var (i := 6)) ds_nil))))) (pg_name (i := 8) nd rfl (.inl rfl)) (pssd_one (psd_if (dt_not (dt_val (pd_call c_Lis_right hr hG hx (by rfl) (da_cons (pd_var (i := 3)) (da_cons (pd_var (i := 8)) (da_cons (pd_var (i := 5)) da_nil)))))) (pssd_one (psd_ret pd_bl)) pssd_nil)))
    (pssd_cons (psd_set 9 nd (pd_call c_Lpick hr hG hx (by rfl) (da_slot (i := 1) (da_cons (PD.ofF (pf_lst (ds_cons (pd_tup (ds_cons (pd_div (PO.of (pd_ix (PO.of (pd_var (i := 4))) (PO.of pd_int))) (PO.of pd_int)) (ds_cons pd_int ds_nil))) (ds_cons (pd_tup (ds_cons (pd_sub (PO.of (pd_call c_Ldraw hr hG hx (by rfl) (da_slot (i := 1) (da_cons pd_int da_nil)))) (PO.of pd_int)) (ds_cons (pd_add (PO.of pd_int) (PO.of (pd_call c_Ldraw hr hG hx (by rfl) (da_slot (i := 1) (da_cons pd_int da_nil))))) ds_nil))) ds_nil)))) da_nil))))
    (pssd_cons (psd_if (dt_not (dt_val (pd_call c_Lis_along hr hG hx (by rfl) (da_cons (pd_var (i := 3)) (da_cons (pd_var (i := 9)) (da_cons (pd_sub (PO.of (pd_call c_Ldraw hr hG hx (by rfl) (da_slot (i := 1) (da_cons pd_int da_nil)))) (PO.of pd_int)) da_nil)))))) (pssd_one (psd_ret pd_bl)) pssd_nil)
    (pssd_cons (psd_set 10 nd (pd_tuple (by rfl) B.tuple (PO.of (PD.ofF (pf_comp (.nm 11) [("_law_at", 11)] rfl nd (di_range1 (by rfl) B.range (pd_call c_Ldraw hr hG hx (by rfl) (da_slot (i := 1) (da_cons pd_int da_nil)))) (blk_by (N := n_law) (sc := defScope s_law) (by decide +kernel)) (by decide) (fun s H A cl fp => (pg_name (i := 11) nd rfl (.inl rfl) (.inr rfl))) (fun s H A cl fp => dts_nil) (fun s H A cl fp => (pd_call c_Lfraction hr hG xo_none (by rfl) (da_slot (i := 1) da_nil))))))))
    (pssd_cons (psd_if (dt_bool (dw_or (dt_not (dt_val (pd_call c_Lis_counted hr hG hx (by rfl) (da_cons (pd_var (i := 10)) (da_cons (pd_var (i := 5)) da_nil))))) (dw_or1 (dt_not (dt_val (pd_call c_Lis_counted hr hG hx (by rfl) (da_cons (pd_add (PO.of (pd_revT (PO.of (pd_var (i := 10))))) (PO.of (pd_var (i := 10)))) (da_cons (pd_var (i := 5)) da_nil)))))))) (pssd_one (psd_ret pd_bl)) pssd_nil)
    (pssd_cons (psd_set 11 nd (pd_call c_Ldraw hr hG hx (by rfl) (da_slot (i := 1) (da_cons (pd_add (PO.of (pd_len (by rfl) B.len (PO.of (pd_var (i := 10))))) (PO.of pd_int)) da_nil))))
    (pssd_cons (psd_set 12 nd (pd_add (PO.of (pd_add (PO.of (pd_slT (PO.of (pd_var (i := 10))) dp_none (dp_some (pd_var (i := 11))))) (PO.of (pd_tup (ds_cons (pd_call c_Lodd hr hG hx (by rfl) (da_slot (i := 1) (da_cons (pd_var (i := 4)) da_nil))) ds_nil))))) (PO.of (pd_slT (PO.of (pd_var (i := 10))) (dp_some (pd_var (i := 11))) dp_none))))
    (pssd_cons (psd_if (dt_bool (dw_or (dt_not (dt_val (pd_call c_Lis_counted hr hG hx (by rfl) (da_cons (pd_var (i := 12)) (da_cons (pd_var (i := 5)) da_nil))))) (dw_or1 (dt_not (dt_val (pd_call c_Lis_counted hr hG hx (by rfl) (da_cons (pd_add (PO.of (pd_slT (PO.of (pd_var (i := 12))) (dp_some (pd_var (i := 11))) dp_none)) (PO.of (pd_tup (ds_cons (pd_var (i := 6)) ds_nil)))) (da_cons (pd_sub (PO.of pd_int) (PO.of (pd_var (i := 5)))) da_nil)))))))) (pssd_one (psd_ret pd_bl)) pssd_nil)
    (pssd_one (psd_if (dt_not (dt_val (pd_call c_Lis_counted hr hG hx (by rfl) (da_cons (pd_call c_moved_poly hr hG hx (by rfl) (da_cons (pd_var (i := 3)) (da_cons (pd_var (i := 4)) da_nil))) (da_cons (pd_sub (PO.of pd_int) (PO.of (pd_var (i := 5)))) da_nil))))) (pssd_one (psd_ret pd_bl)) pssd_nil)))))))))))))
    (pssd_one (psd_ret pd_bl)))
theorem forD_inv {g : Tgt} {tb : TSD} {D : EndsD} (Iv : List Slot → Prop) : ∀ (ds : List DL.D), (∀ d ∈ ds, ∀ ρ, Iv ρ → ∀ N : List Slot → Prop, (∀ ρ', Iv ρ' → N ρ') → bindT g d ρ fun ρ' => tb { D with nx := N, ct := N, bk := D.nx } ρ') → (∀ ρ, Iv ρ → D.nx ρ) → ∀ ρ, Iv ρ → forD g tb D ds ρ := by
  intro ds
  induction ds with
  | nil => intro _ he ρ h; exact he ρ h
  | cons d ds ih =>
    intro hb he ρ h
    exact hb d List.mem_cons_self ρ h _ (ih (fun x hx => hb x (List.mem_cons_of_mem _ hx)) he)
/-- a fraction of the law -/
def Fg (d : D) : Prop := ∃ a b : Int, d = fr (a, b) ∧ -10000 ≤ a ∧ a ≤ 10000 ∧ 0 < b ∧ b ≤ 10000
theorem fg_sb {d : D} (h : Fg d) : SB (nA 2) 6 d := by
  obtain ⟨a, b, rfl, h1, h2, h3, h4⟩ := h
  exact (sb_fr (Sm.le (a := 14) (Sm.of (by omega) (by omega)) (by decide)) (Sm.le (a := 14) (Sm.of (by omega) (by omega)) (by decide))).le (by rw [nA2]; decide) (by decide)
theorem outs_all {P : D → Prop} : ∀ (ds ys : List D), Outs (fun _ o => ∃ y, o = some y ∧ P y) ds ys → (∀ y ∈ ys, P y) ∧ ys.length = ds.length := by
  intro ds
  induction ds with
  | nil => intro ys e; rw [show ys = [] from e]; exact ⟨(fun y hy => nomatch hy), rfl⟩
  | cons d ds ih =>
    rintro ys ⟨o, ⟨y, rfl, a⟩, r, hr, rfl⟩
    obtain ⟨i1, i2⟩ := ih r hr
    exact ⟨fun z hz => by
      rcases List.mem_cons.mp hz with rfl | hz
      · exact a
      · exact i1 z hz, by show (y :: r).length = _; rw [List.length_cons, List.length_cons, i2]⟩
theorem cutD_len (ds : List D) (lo hi : Option Int) : (DL.cutD ds lo hi).length ≤ ds.length := by
  unfold DL.cutD
  rw [List.length_take, List.length_drop]
  omega
theorem cutD_mem {ds : List D} {lo hi : Option Int} {d : D} (h : d ∈ DL.cutD ds lo hi) : d ∈ ds := List.mem_of_mem_drop (List.mem_of_mem_take h)
theorem isFr_no {a b : Int} {P : Prop} (hb : 0 < b) (z : isFr (fr (a, b)) = false) : P := by
  rw [show isFr (fr (a, b)) = true from decide_eq_true hb] at z
  cases z
theorem r_law (px : XP) (Q : D → Prop) (o0 : Slot) (h : Q (.bool true)) : t_law px { nx := fun _ => Q .none, rt := Q } [o0, .deck, .un, .un, .un, .un, .un, .un, .un, .un, .un, .un, .un] := by
  have s1 : 1 ≤ sizeLine := by decide
  have s2 : 2 ≤ sizeLine := by decide
  have s3 : 3 ≤ sizeLine := by decide
  have s60 : 60 ≤ sizeLine := by decide
  refine ⟨⟨by decide, by decide⟩, ?_⟩
  refine forD_inv (fun ρ => ∃ o2 o3 o4 o5 o6 o7 o8 o9 o10 o11 o12, ρ = [o0, .deck, o2, o3, o4, o5, o6, o7, o8, o9, o10, o11, o12]) (rangeD 0 1 3) ?_ ?_ _ ⟨_, _, _, _, _, _, _, _, _, _, _, rfl⟩
  · rintro d hd ρ ⟨o2, o3, o4, o5, o6, o7, o8, o9, o10, o11, o12, rfl⟩ N k
    obtain ⟨i, rfl⟩ : ∃ i : Int, d = .int i := by
      unfold rangeD at hd
      obtain ⟨x, _, rfl⟩ := List.mem_map.mp hd
      exact ⟨_, rfl⟩
    refine ⟨rfl, fun ps hp h1 => ⟨rfl, fun a b a1 a2 b1 b2 => ⟨rfl, ?_⟩⟩⟩
    have hn := hp.n
    have sa : Sm 14 a := Sm.of (by omega) (by omega)
    have sb : Sm 14 b := Sm.of (by omega) (by omega)
    have hf : FrOk a b := ⟨sa.le (by decide), sb.le (by decide), b1⟩
    generalize Builtin.bitAnd i 1 = way
    refine ⟨a, b, rfl, sa, sb, fun odd ho => ⟨.int a, rfl, .int b, rfl, a, b, rfl, b1, sb.le (by decide), rfl, ?_⟩⟩
    have fr1 : ∀ x y : Int, Sm 14 x → Sm 14 y → SB (nA 2) 6 (fr (x, y)) ∧ ∀ a' b', fr (x, y) = .tuple [.int a', .int b'] → 0 < b' → FrOk a' b' := fun x y hx hy =>
      ⟨(sb_fr (hx.le (by decide)) (hy.le (by decide))).le (by rw [nA2]; decide) (by decide), fun a' b' e hb' => by cases e; exact ⟨hx.le (by decide), hy.le (by decide), hb'⟩⟩
    obtain ⟨x1, y1⟩ := fr1 a b sa sb
    obtain ⟨x2, y2⟩ := fr1 (rd a b).1 (rd a b).2 (rd_sm1 sa) (rd_sm2 sb)
    have y3 : ∀ a' b', odd = .tuple [.int a', .int b'] → 0 < b' → FrOk a' b' := fun a' b' e hb' => ⟨(ho.fr a' b' e).1.le (by decide), (ho.fr a' b' e).2.le (by decide), hb'⟩
    refine ⟨s3, ps, _, _, rfl, hp, h1, x1, y1, ps, _, _, rfl, hp, h1, x2, y2, ps, _, _, rfl, hp, h1, ho.sb, y3, ?_⟩
    refine ⟨.int a, rfl, Sm.cdiv (b := 14) (by decide) (Sm.of (by decide) (by decide)) (by decide), s2, 25, rfl, by decide, by decide, fun r r0 r1 => ⟨9, rfl, by decide, by decide, fun q q0 q1 => ⟨s2, s2, _, rfl, (by show 1 ≤ 2; decide), (by show 2 ≤ 100; decide), fun small hs => ?_⟩⟩⟩
    obtain ⟨a', b', rfl, sa', sb', hb'⟩ : ∃ a' b' : Int, small = fr (a', b') ∧ Sm 14 a' ∧ Sm 5 b' ∧ 0 < b' := by
      simp only [List.mem_cons, List.not_mem_nil, or_false] at hs
      rcases hs with rfl | rfl
      · exact ⟨_, _, rfl, Sm.of (by omega) (by omega), Sm.of (by decide) (by decide), by decide⟩
      · exact ⟨_, _, rfl, Sm.of (by omega) (by omega), Sm.of (by omega) (by omega), by omega⟩
    refine ⟨21, rfl, by decide, by decide, fun f f0 f1 => ⟨ps, a', b', f - 10, rfl, hp, h1, sa', sb', hb', Sm.of (by omega) (by omega), ?_⟩⟩
    refine ⟨11, rfl, by decide, by decide, fun m m0 m1 => ⟨⟨by omega, by omega⟩, ?_⟩⟩
    have hrl : (rangeD 0 1 m.toNat).length = m.toNat := by unfold rangeD; simp
    refine comp_rel (fun _ o => ∃ y, o = some y ∧ Fg y) _ [] (fun d hd R kk => ⟨rfl, fun a b h1 h2 h3 h4 => kk (some (fr (a, b))) ⟨_, rfl, a, b, rfl, h1, h2, h3, h4⟩⟩) (by rw [hrl]; show 0 + m.toNat ≤ sizeLine; omega) fun ys hys => ?_
    obtain ⟨yg, yl⟩ := outs_all _ _ hys
    rw [hrl] at yl
    rw [List.nil_append]
    have ysb : ∀ y ∈ ys, SB (nA 2) 6 y := fun y hy => fg_sb (yg y hy)
    refine ⟨ys, _, rfl, by omega, ysb, ?_⟩
    refine ⟨by rw [List.length_reverse]; omega, ys.reverse ++ ys, _, rfl, by rw [List.length_append, List.length_reverse]; omega, fun y hy => (List.mem_append.mp hy).elim (fun hy => ysb y (List.mem_reverse.mp hy)) (ysb y), ?_⟩
    refine ⟨(ys.length : Int) + 1, rfl, by omega, by omega, fun t t0 t1 => ?_⟩
    have c1 := cutD_len ys none (some t)
    have c2 := cutD_len ys (some t) none
    refine ⟨a, b, rfl, sa, sb, fun od2 ho2 => ⟨s1, ?_, ?_, ?_⟩⟩
    · show (DL.cutD ys none (some t)).length + 1 ≤ sizeLine
      omega
    · show (DL.cutD ys none (some t) ++ [od2]).length + (DL.cutD ys (some t) none).length ≤ sizeLine
      rw [List.length_append]
      show (DL.cutD ys none (some t)).length + 1 + (DL.cutD ys (some t) none).length ≤ sizeLine
      omega
    have bl : (DL.cutD ys none (some t) ++ [od2] ++ DL.cutD ys (some t) none).length ≤ 21 := by
      rw [List.length_append, List.length_append]
      show (DL.cutD ys none (some t)).length + 1 + (DL.cutD ys (some t) none).length ≤ 21
      omega
    have bs : ∀ y ∈ DL.cutD ys none (some t) ++ [od2] ++ DL.cutD ys (some t) none, SB (nA 2) 6 y := fun y hy => by
      rcases List.mem_append.mp hy with hy | hy
      · rcases List.mem_append.mp hy with hy | hy
        · exact ysb y (cutD_mem hy)
        · rw [List.mem_singleton.mp hy]; exact ho2.sb
      · exact ysb y (cutD_mem hy)
    have c3 := cutD_len (DL.cutD ys none (some t) ++ [od2] ++ DL.cutD ys (some t) none) (some t) none
    have c4 : (DL.cutD (DL.cutD ys none (some t) ++ [od2] ++ DL.cutD ys (some t) none) (some t) none).length + 1 ≤ 22 := by omega
    refine ⟨_, _, rfl, Nat.le_trans bl (by decide), bs, ?_⟩
    refine ⟨s1, Nat.le_trans c4 (by decide), _, _, rfl, ?_, fun y hy => ?_, ?_⟩
    · rw [List.length_append]
      exact Nat.le_trans c4 (by decide)
    · rcases List.mem_append.mp hy with hy | hy
      · exact bs y (cutD_mem hy)
      · rw [List.mem_singleton.mp hy]; exact ho.sb
    refine ⟨ps, fr (a, b), rfl, hp, ⟨fun z => isFr_no b1 z, fun a' b' e hb' => ?_⟩⟩
    cases e
    refine ⟨hf, mvp a b ps, _, rfl, by rw [mvp_len]; omega, fun d hd => ((mvp_fr hf hp hd).1).le (by rw [nA2]; decide) (by decide), ?_⟩
    exact k _ ⟨_, _, _, _, _, _, _, _, _, _, _, rfl⟩
  · rintro ρ ⟨_, _, _, _, _, _, _, _, _, _, _, rfl⟩
    exact h
end Z

namespace Z
open PySem PySem.Spec PyProof.Rows L2 DL
/-! ### the promises kept -/
theorem fn_is_whole {G : Around → Prop} (hGd : ∀ A env, G A → G (A.deeper env)) {P : Program} {w : World} {K : PySem.W.Frag} {mg : Str → Option Value} {base : Heap} {k : Nat} {wd : Wd} (B : Blt mg)  {f : Addr} {fd : FuncData} (F : L2.Fun K "is_whole" "is_whole" s_is_whole f fd) :
    FnR G P w K mg base (L2.CX P w) (k + 1) f fd ["thing"] (spD K wd F_is_whole) :=
  fnr_mk F sc_is_whole hGd (by intro as Q Z h; first | (obtain ⟨rfl, _⟩ := h; rfl) | (obtain ⟨_, rfl, _⟩ := h; rfl) | (obtain ⟨_, _, rfl, _⟩ := h; rfl) | (obtain ⟨_, _, _, rfl, _⟩ := h; rfl) | (obtain ⟨_, _, _, _, rfl, _⟩ := h; rfl)) (fun cdv hcd A outer s H E C px hr hG hw hx as Q h => by subst hw; exact ⟨_, d_is_whole B hr hG hx , r_is_whole px as Q h⟩)
theorem fn_is_fraction {G : Around → Prop} (hGd : ∀ A env, G A → G (A.deeper env)) {P : Program} {w : World} {K : PySem.W.Frag} {mg : Str → Option Value} {base : Heap} {k : Nat} {wd : Wd} (B : Blt mg) (c_is_whole : Cal G P w K mg base k "is_whole" ["thing"] wd F_is_whole) {f : Addr} {fd : FuncData} (F : L2.Fun K "is_fraction" "is_fraction" s_is_fraction f fd) :
    FnR G P w K mg base (L2.CX P w) (k + 1) f fd ["thing"] (spD K wd F_is_fraction) :=
  fnr_mk F sc_is_fraction hGd (by intro as Q Z h; first | (obtain ⟨rfl, _⟩ := h; rfl) | (obtain ⟨_, rfl, _⟩ := h; rfl) | (obtain ⟨_, _, rfl, _⟩ := h; rfl) | (obtain ⟨_, _, _, rfl, _⟩ := h; rfl) | (obtain ⟨_, _, _, _, rfl, _⟩ := h; rfl)) (fun cdv hcd A outer s H E C px hr hG hw hx as Q h => by subst hw; exact ⟨_, d_is_fraction B hr hG hx c_is_whole, r_is_fraction px as Q h⟩)
theorem fn_need_fraction {G : Around → Prop} (hGd : ∀ A env, G A → G (A.deeper env)) {P : Program} {w : World} {K : PySem.W.Frag} {mg : Str → Option Value} {base : Heap} {k : Nat} {wd : Wd} (B : Blt mg) (c_is_fraction : Cal G P w K mg base k "is_fraction" ["thing"] wd F_is_fraction) (r_BadFraction : Rs P w K mg base "BadFraction" "thing" CF) (hk : 2 ≤ k) {f : Addr} {fd : FuncData} (F : L2.Fun K "need_fraction" "need_fraction" s_need_fraction f fd) :
    FnR G P w K mg base (L2.CX P w) (k + 1) f fd ["thing"] (spD K wd F_need_fraction) :=
  fnr_mk F sc_need_fraction hGd (by intro as Q Z h; first | (obtain ⟨rfl, _⟩ := h; rfl) | (obtain ⟨_, rfl, _⟩ := h; rfl) | (obtain ⟨_, _, rfl, _⟩ := h; rfl) | (obtain ⟨_, _, _, rfl, _⟩ := h; rfl) | (obtain ⟨_, _, _, _, rfl, _⟩ := h; rfl)) (fun cdv hcd A outer s H E C px hr hG hw hx as Q h => by subst hw; exact ⟨_, d_need_fraction B hr hG hx c_is_fraction r_BadFraction hk, r_need_fraction px as Q h⟩)
theorem fn_common_divisor {G : Around → Prop} (hGd : ∀ A env, G A → G (A.deeper env)) {P : Program} {w : World} {K : PySem.W.Frag} {mg : Str → Option Value} {base : Heap} {k : Nat} {wd : Wd} (B : Blt mg)  {f : Addr} {fd : FuncData} (F : L2.Fun K "common_divisor" "common_divisor" s_common_divisor f fd) :
    FnR G P w K mg base (L2.CX P w) (k + 1) f fd ["one", "other"] (spD K wd F_common_divisor) :=
  fnr_mk F sc_common_divisor hGd (by intro as Q Z h; first | (obtain ⟨rfl, _⟩ := h; rfl) | (obtain ⟨_, rfl, _⟩ := h; rfl) | (obtain ⟨_, _, rfl, _⟩ := h; rfl) | (obtain ⟨_, _, _, rfl, _⟩ := h; rfl) | (obtain ⟨_, _, _, _, rfl, _⟩ := h; rfl)) (fun cdv hcd A outer s H E C px hr hG hw hx as Q h => by subst hw; exact ⟨_, d_common_divisor B hr hG hx , r_common_divisor px as Q h⟩)
theorem fn_reduced {G : Around → Prop} (hGd : ∀ A env, G A → G (A.deeper env)) {P : Program} {w : World} {K : PySem.W.Frag} {mg : Str → Option Value} {base : Heap} {k : Nat} {wd : Wd} (B : Blt mg) (c_common_divisor : Cal G P w K mg base k "common_divisor" ["one", "other"] wd F_common_divisor) {f : Addr} {fd : FuncData} (F : L2.Fun K "reduced" "reduced" s_reduced f fd) :
    FnR G P w K mg base (L2.CX P w) (k + 1) f fd ["top", "bottom"] (spD K wd F_reduced) :=
  fnr_mk F sc_reduced hGd (by intro as Q Z h; first | (obtain ⟨rfl, _⟩ := h; rfl) | (obtain ⟨_, rfl, _⟩ := h; rfl) | (obtain ⟨_, _, rfl, _⟩ := h; rfl) | (obtain ⟨_, _, _, rfl, _⟩ := h; rfl) | (obtain ⟨_, _, _, _, rfl, _⟩ := h; rfl)) (fun cdv hcd A outer s H E C px hr hG hw hx as Q h => by subst hw; exact ⟨_, d_reduced B hr hG hx c_common_divisor, r_reduced px as Q h⟩)
theorem fn_poly_value {G : Around → Prop} (hGd : ∀ A env, G A → G (A.deeper env)) {P : Program} {w : World} {K : PySem.W.Frag} {mg : Str → Option Value} {base : Heap} {k : Nat} {wd : Wd} (B : Blt mg) (c_need_fraction : Cal G P w K mg base k "need_fraction" ["thing"] wd F_need_fraction) (c_reduced : Cal G P w K mg base k "reduced" ["top", "bottom"] wd F_reduced) {f : Addr} {fd : FuncData} (F : L2.Fun K "poly_value" "poly_value" s_poly_value f fd) :
    FnR G P w K mg base (L2.CX P w) (k + 1) f fd ["poly", "number"] (spD K wd F_poly_value) :=
  fnr_mk F sc_poly_value hGd (by intro as Q Z h; first | (obtain ⟨rfl, _⟩ := h; rfl) | (obtain ⟨_, rfl, _⟩ := h; rfl) | (obtain ⟨_, _, rfl, _⟩ := h; rfl) | (obtain ⟨_, _, _, rfl, _⟩ := h; rfl) | (obtain ⟨_, _, _, _, rfl, _⟩ := h; rfl)) (fun cdv hcd A outer s H E C px hr hG hw hx as Q h => by subst hw; exact ⟨_, d_poly_value B hr hG hx c_need_fraction c_reduced, r_poly_value px as Q h⟩)
theorem fn_moved_tops {G : Around → Prop} (hGd : ∀ A env, G A → G (A.deeper env)) {P : Program} {w : World} {K : PySem.W.Frag} {mg : Str → Option Value} {base : Heap} {k : Nat} {wd : Wd} (B : Blt mg)  {f : Addr} {fd : FuncData} (F : L2.Fun K "moved_tops" "moved_tops" s_moved_tops f fd) :
    FnR G P w K mg base (L2.CX P w) (k + 1) f fd ["poly", "number"] (spD K wd F_moved_tops) :=
  fnr_mk F sc_moved_tops hGd (by intro as Q Z h; first | (obtain ⟨rfl, _⟩ := h; rfl) | (obtain ⟨_, rfl, _⟩ := h; rfl) | (obtain ⟨_, _, rfl, _⟩ := h; rfl) | (obtain ⟨_, _, _, rfl, _⟩ := h; rfl) | (obtain ⟨_, _, _, _, rfl, _⟩ := h; rfl)) (fun cdv hcd A outer s H E C px hr hG hw hx as Q h => by subst hw; exact ⟨_, d_moved_tops B hr hG hx , r_moved_tops px as Q h⟩)
theorem fn_moved_poly {G : Around → Prop} (hGd : ∀ A env, G A → G (A.deeper env)) {P : Program} {w : World} {K : PySem.W.Frag} {mg : Str → Option Value} {base : Heap} {k : Nat} {wd : Wd} (B : Blt mg) (c_need_fraction : Cal G P w K mg base k "need_fraction" ["thing"] wd F_need_fraction) (c_moved_tops : Cal G P w K mg base k "moved_tops" ["poly", "number"] wd F_moved_tops) (c_reduced : Cal G P w K mg base k "reduced" ["top", "bottom"] wd F_reduced) {f : Addr} {fd : FuncData} (F : L2.Fun K "moved_poly" "moved_poly" s_moved_poly f fd) :
    FnR G P w K mg base (L2.CX P w) (k + 1) f fd ["poly", "number"] (spD K wd F_moved_poly) :=
  fnr_mk F sc_moved_poly hGd (by intro as Q Z h; first | (obtain ⟨rfl, _⟩ := h; rfl) | (obtain ⟨_, rfl, _⟩ := h; rfl) | (obtain ⟨_, _, rfl, _⟩ := h; rfl) | (obtain ⟨_, _, _, rfl, _⟩ := h; rfl) | (obtain ⟨_, _, _, _, rfl, _⟩ := h; rfl)) (fun cdv hcd A outer s H E C px hr hG hw hx as Q h => by subst hw; exact ⟨_, d_moved_poly B hr hG hx c_need_fraction c_moved_tops c_reduced, r_moved_poly px as Q h⟩)
theorem fn_many_changes {G : Around → Prop} (hGd : ∀ A env, G A → G (A.deeper env)) {P : Program} {w : World} {K : PySem.W.Frag} {mg : Str → Option Value} {base : Heap} {k : Nat} {wd : Wd} (B : Blt mg)  {f : Addr} {fd : FuncData} (F : L2.Fun K "many_changes" "many_changes" s_many_changes f fd) :
    FnR G P w K mg base (L2.CX P w) (k + 1) f fd ["numbers"] (spD K wd F_many_changes) :=
  fnr_mk F sc_many_changes hGd (by intro as Q Z h; first | (obtain ⟨rfl, _⟩ := h; rfl) | (obtain ⟨_, rfl, _⟩ := h; rfl) | (obtain ⟨_, _, rfl, _⟩ := h; rfl) | (obtain ⟨_, _, _, rfl, _⟩ := h; rfl) | (obtain ⟨_, _, _, _, rfl, _⟩ := h; rfl)) (fun cdv hcd A outer s H E C px hr hG hw hx as Q h => by subst hw; exact ⟨_, d_many_changes B hr hG hx , r_many_changes px as Q h⟩)
theorem fn_sign_changes {G : Around → Prop} (hGd : ∀ A env, G A → G (A.deeper env)) {P : Program} {w : World} {K : PySem.W.Frag} {mg : Str → Option Value} {base : Heap} {k : Nat} {wd : Wd} (B : Blt mg) (c_need_fraction : Cal G P w K mg base k "need_fraction" ["thing"] wd F_need_fraction) (c_many_changes : Cal G P w K mg base k "many_changes" ["numbers"] wd F_many_changes) {f : Addr} {fd : FuncData} (F : L2.Fun K "sign_changes" "sign_changes" s_sign_changes f fd) :
    FnR G P w K mg base (L2.CX P w) (k + 1) f fd ["numbers"] (spD K wd F_sign_changes) :=
  fnr_mk F sc_sign_changes hGd (by intro as Q Z h; first | (obtain ⟨rfl, _⟩ := h; rfl) | (obtain ⟨_, rfl, _⟩ := h; rfl) | (obtain ⟨_, _, rfl, _⟩ := h; rfl) | (obtain ⟨_, _, _, rfl, _⟩ := h; rfl) | (obtain ⟨_, _, _, _, rfl, _⟩ := h; rfl)) (fun cdv hcd A outer s H E C px hr hG hw hx as Q h => by subst hw; exact ⟨_, d_sign_changes B hr hG hx c_need_fraction c_many_changes, r_sign_changes px as Q h⟩)
theorem fn_Lpick {G : Around → Prop} (hGd : ∀ A env, G A → G (A.deeper env)) {P : Program} {w : World} {K : PySem.W.Frag} {mg : Str → Option Value} {base : Heap} {k : Nat} {wd : Wd} (B : Blt mg) (c_Ldraw : Cal G P w K mg base k "_law_draw" ["_law_deck_here", "_law_many"] wd F_Ldraw) {f : Addr} {fd : FuncData} (F : L2.Fun K "_law_pick" "_law_pick" s_Lpick f fd) :
    FnR G P w K mg base (L2.CX P w) (k + 1) f fd ["_law_deck_here", "_law_some"] (spD K wd F_Lpick) :=
  fnr_mk F sc_Lpick hGd (by intro as Q Z h; first | (obtain ⟨rfl, _⟩ := h; rfl) | (obtain ⟨_, rfl, _⟩ := h; rfl) | (obtain ⟨_, _, rfl, _⟩ := h; rfl) | (obtain ⟨_, _, _, rfl, _⟩ := h; rfl) | (obtain ⟨_, _, _, _, rfl, _⟩ := h; rfl)) (fun cdv hcd A outer s H E C px hr hG hw hx as Q h => by subst hw; exact ⟨_, d_Lpick B hr hG hx c_Ldraw, r_Lpick px as Q h⟩)
theorem fn_Lnumber {G : Around → Prop} (hGd : ∀ A env, G A → G (A.deeper env)) {P : Program} {w : World} {K : PySem.W.Frag} {mg : Str → Option Value} {base : Heap} {k : Nat} {wd : Wd} (B : Blt mg) (c_Ldraw : Cal G P w K mg base k "_law_draw" ["_law_deck_here", "_law_many"] wd F_Ldraw) {f : Addr} {fd : FuncData} (F : L2.Fun K "_law_number" "_law_number" s_Lnumber f fd) :
    FnR G P w K mg base (L2.CX P w) (k + 1) f fd ["_law_deck_here", "_law_way"] (spD K wd F_Lnumber) :=
  fnr_mk F sc_Lnumber hGd (by intro as Q Z h; first | (obtain ⟨rfl, _⟩ := h; rfl) | (obtain ⟨_, rfl, _⟩ := h; rfl) | (obtain ⟨_, _, rfl, _⟩ := h; rfl) | (obtain ⟨_, _, _, rfl, _⟩ := h; rfl) | (obtain ⟨_, _, _, _, rfl, _⟩ := h; rfl)) (fun cdv hcd A outer s H E C px hr hG hw hx as Q h => by subst hw; exact ⟨_, d_Lnumber B hr hG hx c_Ldraw, r_Lnumber px as Q h⟩)
theorem fn_Lpoly {G : Around → Prop} (hGd : ∀ A env, G A → G (A.deeper env)) {P : Program} {w : World} {K : PySem.W.Frag} {mg : Str → Option Value} {base : Heap} {k : Nat} {wd : Wd} (B : Blt mg) (c_Ldraw : Cal G P w K mg base k "_law_draw" ["_law_deck_here", "_law_many"] wd F_Ldraw) (c_Lnumber : Cal G P w K mg base k "_law_number" ["_law_deck_here", "_law_way"] wd F_Lnumber) {f : Addr} {fd : FuncData} (F : L2.Fun K "_law_poly" "_law_poly" s_Lpoly f fd) :
    FnR G P w K mg base (L2.CX P w) (k + 1) f fd ["_law_deck_here"] (spD K wd F_Lpoly) :=
  fnr_mk F sc_Lpoly hGd (by intro as Q Z h; first | (obtain ⟨rfl, _⟩ := h; rfl) | (obtain ⟨_, rfl, _⟩ := h; rfl) | (obtain ⟨_, _, rfl, _⟩ := h; rfl) | (obtain ⟨_, _, _, rfl, _⟩ := h; rfl) | (obtain ⟨_, _, _, _, rfl, _⟩ := h; rfl)) (fun cdv hcd A outer s H E C px hr hG hw hx as Q h => by subst hw; exact ⟨_, d_Lpoly B hr hG hx c_Ldraw c_Lnumber, r_Lpoly px as Q h⟩)
theorem fn_Lfraction {G : Around → Prop} (hGd : ∀ A env, G A → G (A.deeper env)) {P : Program} {w : World} {K : PySem.W.Frag} {mg : Str → Option Value} {base : Heap} {k : Nat} {wd : Wd} (B : Blt mg) (c_Ldraw : Cal G P w K mg base k "_law_draw" ["_law_deck_here", "_law_many"] wd F_Ldraw) {f : Addr} {fd : FuncData} (F : L2.Fun K "_law_fraction" "_law_fraction" s_Lfraction f fd) :
    FnR G P w K mg base (L2.CX P w) (k + 1) f fd ["_law_deck_here"] (spD K wd F_Lfraction) :=
  fnr_mk F sc_Lfraction hGd (by intro as Q Z h; first | (obtain ⟨rfl, _⟩ := h; rfl) | (obtain ⟨_, rfl, _⟩ := h; rfl) | (obtain ⟨_, _, rfl, _⟩ := h; rfl) | (obtain ⟨_, _, _, rfl, _⟩ := h; rfl) | (obtain ⟨_, _, _, _, rfl, _⟩ := h; rfl)) (fun cdv hcd A outer s H E C px hr hG hw hx as Q h => by subst hw; exact ⟨_, d_Lfraction B hr hG hx c_Ldraw, r_Lfraction px as Q h⟩)
theorem fn_Lodd {G : Around → Prop} (hGd : ∀ A env, G A → G (A.deeper env)) {P : Program} {w : World} {K : PySem.W.Frag} {mg : Str → Option Value} {base : Heap} {k : Nat} {wd : Wd} (B : Blt mg) (c_Ldraw : Cal G P w K mg base k "_law_draw" ["_law_deck_here", "_law_many"] wd F_Ldraw) (c_Lany : Cal G P w K mg base k "_law_any" ["_law_deck_here", "_law_deep"] wd F_Lany) (c_Lpick : Cal G P w K mg base k "_law_pick" ["_law_deck_here", "_law_some"] wd F_Lpick) {f : Addr} {fd : FuncData} (F : L2.Fun K "_law_odd" "_law_odd" s_Lodd f fd) :
    FnR G P w K mg base (L2.CX P w) (k + 1) f fd ["_law_deck_here", "_law_number_here"] (spD K wd F_Lodd) :=
  fnr_mk F sc_Lodd hGd (by intro as Q Z h; first | (obtain ⟨rfl, _⟩ := h; rfl) | (obtain ⟨_, rfl, _⟩ := h; rfl) | (obtain ⟨_, _, rfl, _⟩ := h; rfl) | (obtain ⟨_, _, _, rfl, _⟩ := h; rfl) | (obtain ⟨_, _, _, _, rfl, _⟩ := h; rfl)) (fun cdv hcd A outer s H E C px hr hG hw hx as Q h => by subst hw; exact ⟨_, d_Lodd B hr hG hx c_Ldraw c_Lany c_Lpick, r_Lodd px as Q h⟩)
theorem fn_Lis_fraction {G : Around → Prop} (hGd : ∀ A env, G A → G (A.deeper env)) {P : Program} {w : World} {K : PySem.W.Frag} {mg : Str → Option Value} {base : Heap} {k : Nat} {wd : Wd} (B : Blt mg)  {f : Addr} {fd : FuncData} (F : L2.Fun K "_law_is_fraction" "_law_is_fraction" s_Lis_fraction f fd) :
    FnR G P w K mg base (L2.CX P w) (k + 1) f fd ["_law_thing"] (spD K wd F_Lis_fraction) :=
  fnr_mk F sc_Lis_fraction hGd (by intro as Q Z h; first | (obtain ⟨rfl, _⟩ := h; rfl) | (obtain ⟨_, rfl, _⟩ := h; rfl) | (obtain ⟨_, _, rfl, _⟩ := h; rfl) | (obtain ⟨_, _, _, rfl, _⟩ := h; rfl) | (obtain ⟨_, _, _, _, rfl, _⟩ := h; rfl)) (fun cdv hcd A outer s H E C px hr hG hw hx as Q h => by subst hw; exact ⟨_, d_Lis_fraction B hr hG hx , r_Lis_fraction px as Q h⟩)
theorem fn_Lreduced {G : Around → Prop} (hGd : ∀ A env, G A → G (A.deeper env)) {P : Program} {w : World} {K : PySem.W.Frag} {mg : Str → Option Value} {base : Heap} {k : Nat} {wd : Wd} (B : Blt mg)  {f : Addr} {fd : FuncData} (F : L2.Fun K "_law_reduced" "_law_reduced" s_Lreduced f fd) :
    FnR G P w K mg base (L2.CX P w) (k + 1) f fd ["_law_top", "_law_bottom"] (spD K wd F_Lreduced) :=
  fnr_mk F sc_Lreduced hGd (by intro as Q Z h; first | (obtain ⟨rfl, _⟩ := h; rfl) | (obtain ⟨_, rfl, _⟩ := h; rfl) | (obtain ⟨_, _, rfl, _⟩ := h; rfl) | (obtain ⟨_, _, _, rfl, _⟩ := h; rfl) | (obtain ⟨_, _, _, _, rfl, _⟩ := h; rfl)) (fun cdv hcd A outer s H E C px hr hG hw hx as Q h => by subst hw; exact ⟨_, d_Lreduced B hr hG hx , r_Lreduced px as Q h⟩)
theorem fn_Lvalue {G : Around → Prop} (hGd : ∀ A env, G A → G (A.deeper env)) {P : Program} {w : World} {K : PySem.W.Frag} {mg : Str → Option Value} {base : Heap} {k : Nat} {wd : Wd} (B : Blt mg) (c_Lreduced : Cal G P w K mg base k "_law_reduced" ["_law_top", "_law_bottom"] wd F_Lreduced) {f : Addr} {fd : FuncData} (F : L2.Fun K "_law_value" "_law_value" s_Lvalue f fd) :
    FnR G P w K mg base (L2.CX P w) (k + 1) f fd ["_law_poly_here", "_law_number_here"] (spD K wd F_Lvalue) :=
  fnr_mk F sc_Lvalue hGd (by intro as Q Z h; first | (obtain ⟨rfl, _⟩ := h; rfl) | (obtain ⟨_, rfl, _⟩ := h; rfl) | (obtain ⟨_, _, rfl, _⟩ := h; rfl) | (obtain ⟨_, _, _, rfl, _⟩ := h; rfl) | (obtain ⟨_, _, _, _, rfl, _⟩ := h; rfl)) (fun cdv hcd A outer s H E C px hr hG hw hx as Q h => by subst hw; exact ⟨_, d_Lvalue B hr hG hx c_Lreduced, r_Lvalue px as Q h⟩)
theorem fn_Lmoved {G : Around → Prop} (hGd : ∀ A env, G A → G (A.deeper env)) {P : Program} {w : World} {K : PySem.W.Frag} {mg : Str → Option Value} {base : Heap} {k : Nat} {wd : Wd} (B : Blt mg) (c_Lreduced : Cal G P w K mg base k "_law_reduced" ["_law_top", "_law_bottom"] wd F_Lreduced) {f : Addr} {fd : FuncData} (F : L2.Fun K "_law_moved" "_law_moved" s_Lmoved f fd) :
    FnR G P w K mg base (L2.CX P w) (k + 1) f fd ["_law_poly_here", "_law_number_here"] (spD K wd F_Lmoved) :=
  fnr_mk F sc_Lmoved hGd (by intro as Q Z h; first | (obtain ⟨rfl, _⟩ := h; rfl) | (obtain ⟨_, rfl, _⟩ := h; rfl) | (obtain ⟨_, _, rfl, _⟩ := h; rfl) | (obtain ⟨_, _, _, rfl, _⟩ := h; rfl) | (obtain ⟨_, _, _, _, rfl, _⟩ := h; rfl)) (fun cdv hcd A outer s H E C px hr hG hw hx as Q h => by subst hw; exact ⟨_, d_Lmoved B hr hG hx c_Lreduced, r_Lmoved px as Q h⟩)
theorem fn_Lchanges {G : Around → Prop} (hGd : ∀ A env, G A → G (A.deeper env)) {P : Program} {w : World} {K : PySem.W.Frag} {mg : Str → Option Value} {base : Heap} {k : Nat} {wd : Wd} (B : Blt mg)  {f : Addr} {fd : FuncData} (F : L2.Fun K "_law_changes" "_law_changes" s_Lchanges f fd) :
    FnR G P w K mg base (L2.CX P w) (k + 1) f fd ["_law_numbers"] (spD K wd F_Lchanges) :=
  fnr_mk F sc_Lchanges hGd (by intro as Q Z h; first | (obtain ⟨rfl, _⟩ := h; rfl) | (obtain ⟨_, rfl, _⟩ := h; rfl) | (obtain ⟨_, _, rfl, _⟩ := h; rfl) | (obtain ⟨_, _, _, rfl, _⟩ := h; rfl) | (obtain ⟨_, _, _, _, rfl, _⟩ := h; rfl)) (fun cdv hcd A outer s H E C px hr hG hw hx as Q h => by subst hw; exact ⟨_, d_Lchanges B hr hG hx , r_Lchanges px as Q h⟩)
theorem fn_Lis_along {P : Program} {w : World} {K : PySem.W.Frag} {mg : Str → Option Value} {base : Heap} {k : Nat} {wd : Wd} (B : Blt mg) (c_moved_poly : Cal NoGu P w K mg base k "moved_poly" ["poly", "number"] wd F_moved_poly) (c_Lreduced : Cal NoGu P w K mg base k "_law_reduced" ["_law_top", "_law_bottom"] wd F_Lreduced) (c_poly_value : Cal NoGu P w K mg base k "poly_value" ["poly", "number"] wd F_poly_value) {f : Addr} {fd : FuncData} (F : L2.Fun K "_law_is_along" "_law_is_along" s_Lis_along f fd) :
    FnR NoGu P w K mg base (L2.CX P w) (k + 1) f fd ["_law_poly_here", "_law_number_here", "_law_far"] (spD K wd F_Lis_along) :=
  fnr_mk F sc_Lis_along noGu_deeper (by intro as Q Z h; first | (obtain ⟨rfl, _⟩ := h; rfl) | (obtain ⟨_, rfl, _⟩ := h; rfl) | (obtain ⟨_, _, rfl, _⟩ := h; rfl) | (obtain ⟨_, _, _, rfl, _⟩ := h; rfl) | (obtain ⟨_, _, _, _, rfl, _⟩ := h; rfl)) (fun cdv hcd A outer s H E C px hr hG hw hx as Q h => by subst hw; exact ⟨_, d_Lis_along B hr hG hx c_moved_poly c_Lreduced c_poly_value, r_Lis_along px as Q h⟩)
theorem fn_Lis_right {P : Program} {w : World} {K : PySem.W.Frag} {mg : Str → Option Value} {base : Heap} {k : Nat} {wd : Wd} (B : Blt mg) (l_poly_value : Cal Tru P w K mg base (k - 2) "poly_value" ["poly", "number"] wd F_poly_value) (l_moved_poly : Cal Tru P w K mg base (k - 2) "moved_poly" ["poly", "number"] wd F_moved_poly) (q_poly_value : CalK Tru P w K mg base (k - 2) "poly_value" ["poly", "number"] ["number", "poly"] [1, 0] wd F_poly_value) (q_moved_poly : CalK Tru P w K mg base (k - 2) "moved_poly" ["poly", "number"] ["number", "poly"] [1, 0] wd F_moved_poly) (hk2 : 2 ≤ k) (TO : ToldF K mg "_law_told" "_law_deed" "e" "BadFraction" s_Ltold CF "thing") {cc PP : Addr} (TB : LamX.TabB base mg cc PP) (hmem : (PP, ("_law_is_right" : Str) ++ ".<locals>." ++ "<lambda>") ∈ wd.T) (huni : ∀ p ∈ wd.T, p.1 = PP → p.2 = ("_law_is_right" : Str) ++ ".<locals>." ++ "<lambda>") (c_Lis_fraction : Cal NoGu P w K mg base k "_law_is_fraction" ["_law_thing"] wd F_Lis_fraction) (c_Lvalue : Cal NoGu P w K mg base k "_law_value" ["_law_poly_here", "_law_number_here"] wd F_Lvalue) (c_Lmoved : Cal NoGu P w K mg base k "_law_moved" ["_law_poly_here", "_law_number_here"] wd F_Lmoved) {f : Addr} {fd : FuncData} (F : L2.Fun K "_law_is_right" "_law_is_right" s_Lis_right f fd) (hc : fd.code = .ref cc) :
    FnR NoGu P w K mg base (L2.CX P w) (k + 1) f fd ["_law_poly_here", "_law_number_here", "_law_way"] (spD K wd F_Lis_right) :=
  fnr_mk F sc_Lis_right noGu_deeper (by intro as Q Z h; first | (obtain ⟨rfl, _⟩ := h; rfl) | (obtain ⟨_, rfl, _⟩ := h; rfl) | (obtain ⟨_, _, rfl, _⟩ := h; rfl) | (obtain ⟨_, _, _, rfl, _⟩ := h; rfl) | (obtain ⟨_, _, _, _, rfl, _⟩ := h; rfl)) (fun cdv hcd A outer s H E C px hr hG hw hx as Q h => by subst hw; exact ⟨_, d_Lis_right B hr hG hx l_poly_value l_moved_poly q_poly_value q_moved_poly hk2 TO ⟨TB, hcd.symm.trans hc, hmem, huni⟩ c_Lis_fraction c_Lvalue c_Lmoved, r_Lis_right px as Q h⟩)
theorem fn_Lis_counted {P : Program} {w : World} {K : PySem.W.Frag} {mg : Str → Option Value} {base : Heap} {k : Nat} {wd : Wd} (B : Blt mg) (l_sign_changes : Cal Tru P w K mg base (k - 2) "sign_changes" ["numbers"] wd F_sign_changes) (q_sign_changes : CalK Tru P w K mg base (k - 2) "sign_changes" ["numbers"] ["numbers"] [0] wd F_sign_changes) (hk2 : 2 ≤ k) (TO : ToldF K mg "_law_told" "_law_deed" "e" "BadFraction" s_Ltold CF "thing") {cc PP : Addr} (TB : LamX.TabB base mg cc PP) (hmem : (PP, ("_law_is_counted" : Str) ++ ".<locals>." ++ "<lambda>") ∈ wd.T) (huni : ∀ p ∈ wd.T, p.1 = PP → p.2 = ("_law_is_counted" : Str) ++ ".<locals>." ++ "<lambda>") (c_Lis_fraction : Cal NoGu P w K mg base k "_law_is_fraction" ["_law_thing"] wd F_Lis_fraction) (c_Lchanges : Cal NoGu P w K mg base k "_law_changes" ["_law_numbers"] wd F_Lchanges) {f : Addr} {fd : FuncData} (F : L2.Fun K "_law_is_counted" "_law_is_counted" s_Lis_counted f fd) (hc : fd.code = .ref cc) :
    FnR NoGu P w K mg base (L2.CX P w) (k + 1) f fd ["_law_numbers", "_law_way"] (spD K wd F_Lis_counted) :=
  fnr_mk F sc_Lis_counted noGu_deeper (by intro as Q Z h; first | (obtain ⟨rfl, _⟩ := h; rfl) | (obtain ⟨_, rfl, _⟩ := h; rfl) | (obtain ⟨_, _, rfl, _⟩ := h; rfl) | (obtain ⟨_, _, _, rfl, _⟩ := h; rfl) | (obtain ⟨_, _, _, _, rfl, _⟩ := h; rfl)) (fun cdv hcd A outer s H E C px hr hG hw hx as Q h => by subst hw; exact ⟨_, d_Lis_counted B hr hG hx l_sign_changes q_sign_changes hk2 TO ⟨TB, hcd.symm.trans hc, hmem, huni⟩ c_Lis_fraction c_Lchanges, r_Lis_counted px as Q h⟩)
end Z

namespace Z
open PySem PySem.Spec PyProof.Rows L2 DL
section
variable {G : Around → Prop} {P : Program} {w : World} {K : PySem.W.Frag} {mg : Str → Option Value} {base : Heap} {k : Nat} {x : Str} {st : Stmt} {ps ks : List Str} {is : List Nat} {wd : Wd} {Fd : FD} {c : Addr}
theorem cal_of (D : Df K mg x st ps) (h : ∀ f fd, L2.Fun K x x st f fd → FnR G P w K mg base (L2.CX P w) k f fd ps (spD K wd Fd)) : Cal G P w K mg base k x ps wd Fd := by
  obtain ⟨f, fd, F, hm, hb⟩ := D.ex
  exact ⟨f, fd, h f fd F, hm, F.kp, hb⟩
theorem calC_of (D : DfC K mg x st ps c) (h : ∀ f fd, L2.Fun K x x st f fd → fd.code = .ref c → FnR G P w K mg base (L2.CX P w) k f fd ps (spD K wd Fd)) : Cal G P w K mg base k x ps wd Fd := by
  obtain ⟨f, fd, F, hm, hb, hc⟩ := D.ex
  exact ⟨f, fd, h f fd F hc, hm, F.kp, hb⟩
structure DfK (K : PySem.W.Frag) (mg : Str → Option Value) (x : Str) (st : Stmt) (ps ks : List Str) (is : List Nat) : Prop where
  ex : ∃ f fd, L2.Fun K x x st f fd ∧ mg x = some (.ref f) ∧ ∀ (s : Shared) (ws : List Value), ws.length = ks.length → BindsTo s fd ⟨[], ks.zip ws⟩ (ps.zip (pick is ws))
theorem calK_of (D : DfK K mg x st ps ks is) (h : ∀ f fd, L2.Fun K x x st f fd → FnR G P w K mg base (L2.CX P w) k f fd ps (spD K wd Fd)) : CalK G P w K mg base k x ps ks is wd Fd := by
  obtain ⟨f, fd, F, hm, hb⟩ := D.ex
  exact ⟨f, fd, h f fd F, hm, F.kp, hb⟩
theorem CalK.mono {G' : Around → Prop} {j : Nat} (c : CalK G P w K mg base j x ps ks is wd Fd) (h : j ≤ k) (g : ∀ A, G' A → G A) : CalK G' P w K mg base k x ps ks is wd Fd := by
  obtain ⟨f, fd, F, h1, h2, h3⟩ := c.ex
  exact ⟨f, fd, F.mono h g, h1, h2, h3⟩
/-! any value, at each depth -/
theorem fn_Lany {j : Nat} (hGd : ∀ A env, G A → G (A.deeper env)) (B : Blt mg) (c_Ldraw : Cal G P w K mg base k "_law_draw" ["_law_deck_here", "_law_many"] wd F_Ldraw) (c_Lpick : Cal G P w K mg base k "_law_pick" ["_law_deck_here", "_law_some"] wd F_Lpick) (c_Lany : Cal G P w K mg base k "_law_any" ["_law_deck_here", "_law_deep"] wd (FAny j)) {f : Addr} {fd : FuncData} (F : L2.Fun K "_law_any" "_law_any" s_Lany f fd) :
    FnR G P w K mg base (L2.CX P w) (k + 1) f fd ["_law_deck_here", "_law_deep"] (spD K wd (FAny (j + 1))) :=
  fnr_mk F sc_Lany hGd (fun as Q Z ⟨_, e, _⟩ => by rw [e]; rfl) (fun cdv hcd A outer s H E C px hr hG hw hx as Q h => by subst hw; exact ⟨_, d_Lany (Fr := FAny j) B hr hG hx c_Ldraw c_Lpick c_Lany, r_Lany j px as Q h⟩)
theorem fn_Lany0 (hGd : ∀ A env, G A → G (A.deeper env)) {f : Addr} {fd : FuncData} (F : L2.Fun K "_law_any" "_law_any" s_Lany f fd) : FnR G P w K mg base (L2.CX P w) (k + 1) f fd ["_law_deck_here", "_law_deep"] (spD K wd (FAny 0)) :=
  fnr_mk F sc_Lany hGd (fun as Q Z ⟨_, e, _⟩ => by rw [e]; rfl) (fun cdv hcd A outer s H E C px hr hG hw hx as Q ⟨dp, _, h1, h2, _⟩ => absurd h2 (by show ¬ dp < 0; omega))
theorem cal_any (hGd : ∀ A env, G A → G (A.deeper env)) (B : Blt mg) (D : Df K mg "_law_any" s_Lany ["_law_deck_here", "_law_deep"]) (c_Ldraw : Cal G P w K mg base k "_law_draw" ["_law_deck_here", "_law_many"] wd F_Ldraw) (c_Lpick : Cal G P w K mg base k "_law_pick" ["_law_deck_here", "_law_some"] wd F_Lpick) (j : Nat) :
    Cal G P w K mg base (k + 1 + j) "_law_any" ["_law_deck_here", "_law_deep"] wd (FAny j) := by
  induction j with
  | zero => exact cal_of D fun f fd F => fn_Lany0 hGd F
  | succ j ih => exact cal_of D fun f fd F => fn_Lany hGd B (c_Ldraw.mono (by omega) fun _ h => h) (c_Lpick.mono (by omega) fun _ h => h) ih F
theorem cal_draw {T : List (Addr × Str)} (B : Blt mg) (D : Df K mg "_law_draw" sDraw ["_law_deck_here", "_law_many"]) : Cal G P w K mg base 1 "_law_draw" ["_law_deck_here", "_law_many"] ⟨"cells", "mixed", "draws", T⟩ F_Ldraw :=
  cal_of D fun f fd F => FnR.of (ok_draw T F B)
end
/-! ### the law itself, from the script on -/
theorem fnr_raw {G : Around → Prop} {P : Program} {w : World} {K : PySem.W.Frag} {mg : Str → Option Value} {base : Heap} {k : Nat} {f : Addr} {x qual : Str} {st : Stmt} {fd : FuncData} {N ps : List Str} {sp : Sp}
    (F : L2.Fun K x qual st f fd) (S : FnScope N ps (defScope st)) (hGd : ∀ A env, G A → G (A.deeper env)) (len : ∀ vs H Q E, sp vs H Q E → vs.length = ps.length)
    (hbody : ∀ (cdv : Value) (A : Around) (outer : List Env) (s : Shared) (H : Hp) (vs : List V) (Q : VK) (E : XK), Room k (A.deeper (envOfC qual (defScope st) s.heap.objs.size f cdv)) → G (A.deeper (envOfC qual (defScope st) s.heap.objs.size f cdv)) → sp vs H Q E →
      ∃ t, PSs (cxOf (L2.CX P w) P w K mg base N qual (defScope st) f cdv A outer s H E) (defBody st) t ∧ t { nx := fun _ H' => Q .non H', rt := Q } (L2.start N vs) H) :
    FnR G P w K mg base (L2.CX P w) (k + 1) f fd ps sp := by
  obtain ⟨oc, od, kV, doc, pm, an, cdv, ct, osl, rfl, lk, hcd⟩ := F.ex
  exact ⟨len, fun A outer s H args us vs Q E hr hg e0 hb r hsp => LamX.run_ofS (N := N) (ps := ps) (us := us) (vs := vs) lk hcd S hr e0 hb r (len _ _ _ _ hsp) fun hr' => hbody cdv A outer s H vs Q E hr' (hGd _ _ hg) hsp⟩
theorem pss_any {X : Cx} {sts : List Stmt} {I : Type} {t : I → TS} (h : ∀ i, PSs X sts (t i)) : PSs X sts (fun D σ H => ∃ i, t i D σ H) :=
  ⟨fun pins s σ H D J ⟨i, q⟩ => (h i).run pins s σ H D J q⟩
def spLaw (K : PySem.W.Frag) (T : List (Addr × Str)) : Sp := fun vs H Q _ => ∃ (a : Addr) (ns : List Int), vs = [.ref a] ∧ SqL K H a (ns.map V.int) ∧ ns.length ≤ 63 ∧ (∀ p ∈ T, H p.1 = some (.tbl #[])) ∧ (∃ o φ, H sysModules = some (.frz o (.ext φ))) ∧ ∀ H', Q (.bl true) H'
section
variable {P : Program} {w : World} {K : PySem.W.Frag} {mg : Str → Option Value} {base : Heap} {k : Nat}
theorem fn_law {T : List (Addr × Str)} (B : Blt mg) (DD : Df K mg "_law_deck" sDeck ["_law_script"]) (hk : 1 ≤ k)
    (c_Lpoly : Cal NoGu P w K mg base k "_law_poly" ["_law_deck_here"] ⟨"cells", "mixed", "draws", T⟩ F_Lpoly) (c_Lfraction : Cal NoGu P w K mg base k "_law_fraction" ["_law_deck_here"] ⟨"cells", "mixed", "draws", T⟩ F_Lfraction) (c_Lodd : Cal NoGu P w K mg base k "_law_odd" ["_law_deck_here", "_law_number_here"] ⟨"cells", "mixed", "draws", T⟩ F_Lodd) (c_Lreduced : Cal NoGu P w K mg base k "_law_reduced" ["_law_top", "_law_bottom"] ⟨"cells", "mixed", "draws", T⟩ F_Lreduced) (c_Lis_right : Cal NoGu P w K mg base k "_law_is_right" ["_law_poly_here", "_law_number_here", "_law_way"] ⟨"cells", "mixed", "draws", T⟩ F_Lis_right) (c_Lpick : Cal NoGu P w K mg base k "_law_pick" ["_law_deck_here", "_law_some"] ⟨"cells", "mixed", "draws", T⟩ F_Lpick) (c_Ldraw : Cal NoGu P w K mg base k "_law_draw" ["_law_deck_here", "_law_many"] ⟨"cells", "mixed", "draws", T⟩ F_Ldraw) (c_Lis_along : Cal NoGu P w K mg base k "_law_is_along" ["_law_poly_here", "_law_number_here", "_law_far"] ⟨"cells", "mixed", "draws", T⟩ F_Lis_along) (c_Lis_counted : Cal NoGu P w K mg base k "_law_is_counted" ["_law_numbers", "_law_way"] ⟨"cells", "mixed", "draws", T⟩ F_Lis_counted) (c_moved_poly : Cal NoGu P w K mg base k "moved_poly" ["poly", "number"] ⟨"cells", "mixed", "draws", T⟩ F_moved_poly)
    {f : Addr} {fd : FuncData} (F : L2.Fun K "law" "law" s_law f fd) : FnR NoGu P w K mg base (L2.CX P w) (k + 1) f fd ["_law_script"] (spLaw K T) := by
  obtain ⟨f17, fd17, F17, hm17, hb17⟩ := DD.ex
  refine fnr_raw F sc_law noGu_deeper (fun vs H Q E ⟨a, ns, e, _⟩ => by rw [e]; rfl) fun cdv A outer s H vs Q E hr hG ⟨a, ns, e, hS, hl, hT, hsys, hq⟩ => ?_
  subst e
  have nd := sc_law.nd
  have FD : FnR Tru P w K mg base (L2.CX P w) 1 f17 fd17 ["_law_script"] (spDeck K ⟨"cells", "mixed", "draws", []⟩) := FnR.of (ok_deck F17 B)
  have hx : ∀ C : Ct, XO (cxOf (L2.CX P w) P w K mg base n_law "law" (defScope s_law) f cdv A outer s H E) C never (L2.CX P w) E := fun C => ⟨fun pins σ H1 s1 e s' I c => passes_call (L2.takes_of rfl rfl rfl rfl) (fun _ _ _ _ h => h) pins σ H1 s1 e s' I c, fun _ _ _ h => h.elim⟩
  have DW := fun i : { C : Ct // C.q.w = ⟨"cells", "mixed", "draws", T⟩ } => d_law (C := i.1) (px := never) B hr hG (hx i.1) (i.2.symm ▸ c_Lpoly) (i.2.symm ▸ c_Lfraction) (i.2.symm ▸ c_Lodd) (i.2.symm ▸ c_Lreduced) (i.2.symm ▸ c_Lis_right) (i.2.symm ▸ c_Lpick) (i.2.symm ▸ c_Ldraw) (i.2.symm ▸ c_Lis_along) (i.2.symm ▸ c_Lis_counted) (i.2.symm ▸ c_moved_poly)
  refine ⟨_, pss_cons (ps_set (i := 1) nd rfl (.inr rfl) (pe_callR FD (hr.mono hk) True.intro (by rfl) hm17 F17.kp hb17 .nil passL (pa_cons (pv 0) pa_nil)))
    (pss_any fun i => (DW i).run), ?_⟩
  refine ⟨.ref a, rfl, a, ns, rfl, hS, hl, fun p l cells m H' sm np nl pl hc dk tbls => ?_⟩
  refine ⟨⟨⟨⟨⟨"cells", "mixed", "draws", T⟩, p, l⟩, H', fun _ => False⟩, rfl⟩, fun _ => False, fun _ => [], [.un, .deck, .un, .un, .un, .un, .un, .un, .un, .un, .un, .un, .un], ?_, ?_⟩
  · refine ⟨Nat.le_refl 13, ?_, fun p hp => LamX.TabS.nil (sm _ _ (hT p hp)), fun _ h => h.elim, KpX.refl _ _, fun _ h => h.elim, fun _ h => h.elim, fun i sl e => ?_, fun i b hb => (by cases hb), fun i j _ b hb => (by cases hb)⟩
    · obtain ⟨o, φ, es⟩ := hsys
      exact ⟨cells, m, 0, dk.1, dk.2, hc, o, φ, sm _ _ es⟩
    · match i, e with
      | 0, e => cases e; exact True.intro
      | 1, e => cases e; exact rfl
      | i + 2, e =>
        have hm := List.mem_of_getElem? (show ([.un, .un, .un, .un, .un, .un, .un, .un, .un, .un, .un] : List Slot)[i]? = some sl from e)
        simp only [List.mem_cons, List.not_mem_nil, or_false, or_self] at hm
        subst hm
        exact True.intro
  · refine (DW ⟨⟨⟨⟨"cells", "mixed", "draws", T⟩, p, l⟩, H', fun _ => False⟩, rfl⟩).mono { nx := fun _ => (fun d => d = .bool true) PyData.none, rt := fun d => d = .bool true } _ _ ⟨fun _ h => (by cases h), fun d hd v F' O' ρ' σ' H2 s R r => ?_, fun _ h => h.elim, fun _ h => h.elim⟩ (r_law never (fun d => d = .bool true) .un rfl)
    subst hd
    cases (show v = .bl true from r)
    exact hq H2
end
end Z

namespace Z
open PySem PySem.Spec PyProof.Rows L2 DL
/-! ### what the top has written -/
section
variable {K : PySem.W.Frag} {h : Heap} {mg : Str → Option Value} {f : Addr} {od an : Option Addr} {osl : Array (Option Value)} {oc kV dc pm cd ct : Value}
theorem df_is_whole (X : K.In h) (G : h.Ns mainGlobals mg) (a : PySem.W.nsIn K mainGlobals "is_whole" = some (some (.ref f))) (l : K.lookup f = some ⟨oc, od, .func (PySem.W.fnOf "is_whole" "is_whole" (defArgs s_is_whole) (defBody s_is_whole) (defScope s_is_whole) .none kV dc pm an cd ct), osl⟩) (c : PySem.W.codeIn K cd "is_whole" = true) (k : PySem.W.keepIn K (.ref f) = true) : Df K mg "is_whole" s_is_whole ["thing"] :=
  ⟨_, _, fun_mk (st := s_is_whole) l c k, PySem.W.mg_of X G a, (fun_mk (st := s_is_whole) l c k).binds (ps := ["thing"]) fun _ _ _ _ _ _ us hl => match us, hl with | [_], _ => rfl⟩
theorem df_is_fraction (X : K.In h) (G : h.Ns mainGlobals mg) (a : PySem.W.nsIn K mainGlobals "is_fraction" = some (some (.ref f))) (l : K.lookup f = some ⟨oc, od, .func (PySem.W.fnOf "is_fraction" "is_fraction" (defArgs s_is_fraction) (defBody s_is_fraction) (defScope s_is_fraction) .none kV dc pm an cd ct), osl⟩) (c : PySem.W.codeIn K cd "is_fraction" = true) (k : PySem.W.keepIn K (.ref f) = true) : Df K mg "is_fraction" s_is_fraction ["thing"] :=
  ⟨_, _, fun_mk (st := s_is_fraction) l c k, PySem.W.mg_of X G a, (fun_mk (st := s_is_fraction) l c k).binds (ps := ["thing"]) fun _ _ _ _ _ _ us hl => match us, hl with | [_], _ => rfl⟩
theorem df_need_fraction (X : K.In h) (G : h.Ns mainGlobals mg) (a : PySem.W.nsIn K mainGlobals "need_fraction" = some (some (.ref f))) (l : K.lookup f = some ⟨oc, od, .func (PySem.W.fnOf "need_fraction" "need_fraction" (defArgs s_need_fraction) (defBody s_need_fraction) (defScope s_need_fraction) .none kV dc pm an cd ct), osl⟩) (c : PySem.W.codeIn K cd "need_fraction" = true) (k : PySem.W.keepIn K (.ref f) = true) : Df K mg "need_fraction" s_need_fraction ["thing"] :=
  ⟨_, _, fun_mk (st := s_need_fraction) l c k, PySem.W.mg_of X G a, (fun_mk (st := s_need_fraction) l c k).binds (ps := ["thing"]) fun _ _ _ _ _ _ us hl => match us, hl with | [_], _ => rfl⟩
theorem df_common_divisor (X : K.In h) (G : h.Ns mainGlobals mg) (a : PySem.W.nsIn K mainGlobals "common_divisor" = some (some (.ref f))) (l : K.lookup f = some ⟨oc, od, .func (PySem.W.fnOf "common_divisor" "common_divisor" (defArgs s_common_divisor) (defBody s_common_divisor) (defScope s_common_divisor) .none kV dc pm an cd ct), osl⟩) (c : PySem.W.codeIn K cd "common_divisor" = true) (k : PySem.W.keepIn K (.ref f) = true) : Df K mg "common_divisor" s_common_divisor ["one", "other"] :=
  ⟨_, _, fun_mk (st := s_common_divisor) l c k, PySem.W.mg_of X G a, (fun_mk (st := s_common_divisor) l c k).binds (ps := ["one", "other"]) fun _ _ _ _ _ _ us hl => match us, hl with | [_, _], _ => rfl⟩
theorem df_reduced (X : K.In h) (G : h.Ns mainGlobals mg) (a : PySem.W.nsIn K mainGlobals "reduced" = some (some (.ref f))) (l : K.lookup f = some ⟨oc, od, .func (PySem.W.fnOf "reduced" "reduced" (defArgs s_reduced) (defBody s_reduced) (defScope s_reduced) .none kV dc pm an cd ct), osl⟩) (c : PySem.W.codeIn K cd "reduced" = true) (k : PySem.W.keepIn K (.ref f) = true) : Df K mg "reduced" s_reduced ["top", "bottom"] :=
  ⟨_, _, fun_mk (st := s_reduced) l c k, PySem.W.mg_of X G a, (fun_mk (st := s_reduced) l c k).binds (ps := ["top", "bottom"]) fun _ _ _ _ _ _ us hl => match us, hl with | [_, _], _ => rfl⟩
theorem df_poly_value (X : K.In h) (G : h.Ns mainGlobals mg) (a : PySem.W.nsIn K mainGlobals "poly_value" = some (some (.ref f))) (l : K.lookup f = some ⟨oc, od, .func (PySem.W.fnOf "poly_value" "poly_value" (defArgs s_poly_value) (defBody s_poly_value) (defScope s_poly_value) .none kV dc pm an cd ct), osl⟩) (c : PySem.W.codeIn K cd "poly_value" = true) (k : PySem.W.keepIn K (.ref f) = true) : Df K mg "poly_value" s_poly_value ["poly", "number"] :=
  ⟨_, _, fun_mk (st := s_poly_value) l c k, PySem.W.mg_of X G a, (fun_mk (st := s_poly_value) l c k).binds (ps := ["poly", "number"]) fun _ _ _ _ _ _ us hl => match us, hl with | [_, _], _ => rfl⟩
theorem dk_poly_value (X : K.In h) (G : h.Ns mainGlobals mg) (a : PySem.W.nsIn K mainGlobals "poly_value" = some (some (.ref f))) (l : K.lookup f = some ⟨oc, od, .func (PySem.W.fnOf "poly_value" "poly_value" (defArgs s_poly_value) (defBody s_poly_value) (defScope s_poly_value) .none kV dc pm an cd ct), osl⟩) (c : PySem.W.codeIn K cd "poly_value" = true) (k : PySem.W.keepIn K (.ref f) = true) : DfK K mg "poly_value" s_poly_value ["poly", "number"] ["number", "poly"] [1, 0] :=
  ⟨_, _, fun_mk (st := s_poly_value) l c k, PySem.W.mg_of X G a, fun s ws hl => match ws, hl with | [_, _], _ => .of_eq rfl⟩
theorem df_moved_tops (X : K.In h) (G : h.Ns mainGlobals mg) (a : PySem.W.nsIn K mainGlobals "moved_tops" = some (some (.ref f))) (l : K.lookup f = some ⟨oc, od, .func (PySem.W.fnOf "moved_tops" "moved_tops" (defArgs s_moved_tops) (defBody s_moved_tops) (defScope s_moved_tops) .none kV dc pm an cd ct), osl⟩) (c : PySem.W.codeIn K cd "moved_tops" = true) (k : PySem.W.keepIn K (.ref f) = true) : Df K mg "moved_tops" s_moved_tops ["poly", "number"] :=
  ⟨_, _, fun_mk (st := s_moved_tops) l c k, PySem.W.mg_of X G a, (fun_mk (st := s_moved_tops) l c k).binds (ps := ["poly", "number"]) fun _ _ _ _ _ _ us hl => match us, hl with | [_, _], _ => rfl⟩
theorem df_moved_poly (X : K.In h) (G : h.Ns mainGlobals mg) (a : PySem.W.nsIn K mainGlobals "moved_poly" = some (some (.ref f))) (l : K.lookup f = some ⟨oc, od, .func (PySem.W.fnOf "moved_poly" "moved_poly" (defArgs s_moved_poly) (defBody s_moved_poly) (defScope s_moved_poly) .none kV dc pm an cd ct), osl⟩) (c : PySem.W.codeIn K cd "moved_poly" = true) (k : PySem.W.keepIn K (.ref f) = true) : Df K mg "moved_poly" s_moved_poly ["poly", "number"] :=
  ⟨_, _, fun_mk (st := s_moved_poly) l c k, PySem.W.mg_of X G a, (fun_mk (st := s_moved_poly) l c k).binds (ps := ["poly", "number"]) fun _ _ _ _ _ _ us hl => match us, hl with | [_, _], _ => rfl⟩
theorem dk_moved_poly (X : K.In h) (G : h.Ns mainGlobals mg) (a : PySem.W.nsIn K mainGlobals "moved_poly" = some (some (.ref f))) (l : K.lookup f = some ⟨oc, od, .func (PySem.W.fnOf "moved_poly" "moved_poly" (defArgs s_moved_poly) (defBody s_moved_poly) (defScope s_moved_poly) .none kV dc pm an cd ct), osl⟩) (c : PySem.W.codeIn K cd "moved_poly" = true) (k : PySem.W.keepIn K (.ref f) = true) : DfK K mg "moved_poly" s_moved_poly ["poly", "number"] ["number", "poly"] [1, 0] :=
  ⟨_, _, fun_mk (st := s_moved_poly) l c k, PySem.W.mg_of X G a, fun s ws hl => match ws, hl with | [_, _], _ => .of_eq rfl⟩
theorem df_many_changes (X : K.In h) (G : h.Ns mainGlobals mg) (a : PySem.W.nsIn K mainGlobals "many_changes" = some (some (.ref f))) (l : K.lookup f = some ⟨oc, od, .func (PySem.W.fnOf "many_changes" "many_changes" (defArgs s_many_changes) (defBody s_many_changes) (defScope s_many_changes) .none kV dc pm an cd ct), osl⟩) (c : PySem.W.codeIn K cd "many_changes" = true) (k : PySem.W.keepIn K (.ref f) = true) : Df K mg "many_changes" s_many_changes ["numbers"] :=
  ⟨_, _, fun_mk (st := s_many_changes) l c k, PySem.W.mg_of X G a, (fun_mk (st := s_many_changes) l c k).binds (ps := ["numbers"]) fun _ _ _ _ _ _ us hl => match us, hl with | [_], _ => rfl⟩
theorem df_sign_changes (X : K.In h) (G : h.Ns mainGlobals mg) (a : PySem.W.nsIn K mainGlobals "sign_changes" = some (some (.ref f))) (l : K.lookup f = some ⟨oc, od, .func (PySem.W.fnOf "sign_changes" "sign_changes" (defArgs s_sign_changes) (defBody s_sign_changes) (defScope s_sign_changes) .none kV dc pm an cd ct), osl⟩) (c : PySem.W.codeIn K cd "sign_changes" = true) (k : PySem.W.keepIn K (.ref f) = true) : Df K mg "sign_changes" s_sign_changes ["numbers"] :=
  ⟨_, _, fun_mk (st := s_sign_changes) l c k, PySem.W.mg_of X G a, (fun_mk (st := s_sign_changes) l c k).binds (ps := ["numbers"]) fun _ _ _ _ _ _ us hl => match us, hl with | [_], _ => rfl⟩
theorem dk_sign_changes (X : K.In h) (G : h.Ns mainGlobals mg) (a : PySem.W.nsIn K mainGlobals "sign_changes" = some (some (.ref f))) (l : K.lookup f = some ⟨oc, od, .func (PySem.W.fnOf "sign_changes" "sign_changes" (defArgs s_sign_changes) (defBody s_sign_changes) (defScope s_sign_changes) .none kV dc pm an cd ct), osl⟩) (c : PySem.W.codeIn K cd "sign_changes" = true) (k : PySem.W.keepIn K (.ref f) = true) : DfK K mg "sign_changes" s_sign_changes ["numbers"] ["numbers"] [0] :=
  ⟨_, _, fun_mk (st := s_sign_changes) l c k, PySem.W.mg_of X G a, fun s ws hl => match ws, hl with | [_], _ => .of_eq rfl⟩
theorem df_Ldeck (X : K.In h) (G : h.Ns mainGlobals mg) (a : PySem.W.nsIn K mainGlobals "_law_deck" = some (some (.ref f))) (l : K.lookup f = some ⟨oc, od, .func (PySem.W.fnOf "_law_deck" "_law_deck" (defArgs sDeck) (defBody sDeck) (defScope sDeck) .none kV dc pm an cd ct), osl⟩) (c : PySem.W.codeIn K cd "_law_deck" = true) (k : PySem.W.keepIn K (.ref f) = true) : Df K mg "_law_deck" sDeck ["_law_script"] :=
  ⟨_, _, fun_mk (st := sDeck) l c k, PySem.W.mg_of X G a, (fun_mk (st := sDeck) l c k).binds (ps := ["_law_script"]) fun _ _ _ _ _ _ us hl => match us, hl with | [_], _ => rfl⟩
theorem df_Ldraw (X : K.In h) (G : h.Ns mainGlobals mg) (a : PySem.W.nsIn K mainGlobals "_law_draw" = some (some (.ref f))) (l : K.lookup f = some ⟨oc, od, .func (PySem.W.fnOf "_law_draw" "_law_draw" (defArgs sDraw) (defBody sDraw) (defScope sDraw) .none kV dc pm an cd ct), osl⟩) (c : PySem.W.codeIn K cd "_law_draw" = true) (k : PySem.W.keepIn K (.ref f) = true) : Df K mg "_law_draw" sDraw ["_law_deck_here", "_law_many"] :=
  ⟨_, _, fun_mk (st := sDraw) l c k, PySem.W.mg_of X G a, (fun_mk (st := sDraw) l c k).binds (ps := ["_law_deck_here", "_law_many"]) fun _ _ _ _ _ _ us hl => match us, hl with | [_, _], _ => rfl⟩
theorem df_Lpick (X : K.In h) (G : h.Ns mainGlobals mg) (a : PySem.W.nsIn K mainGlobals "_law_pick" = some (some (.ref f))) (l : K.lookup f = some ⟨oc, od, .func (PySem.W.fnOf "_law_pick" "_law_pick" (defArgs s_Lpick) (defBody s_Lpick) (defScope s_Lpick) .none kV dc pm an cd ct), osl⟩) (c : PySem.W.codeIn K cd "_law_pick" = true) (k : PySem.W.keepIn K (.ref f) = true) : Df K mg "_law_pick" s_Lpick ["_law_deck_here", "_law_some"] :=
  ⟨_, _, fun_mk (st := s_Lpick) l c k, PySem.W.mg_of X G a, (fun_mk (st := s_Lpick) l c k).binds (ps := ["_law_deck_here", "_law_some"]) fun _ _ _ _ _ _ us hl => match us, hl with | [_, _], _ => rfl⟩
theorem df_Lany (X : K.In h) (G : h.Ns mainGlobals mg) (a : PySem.W.nsIn K mainGlobals "_law_any" = some (some (.ref f))) (l : K.lookup f = some ⟨oc, od, .func (PySem.W.fnOf "_law_any" "_law_any" (defArgs s_Lany) (defBody s_Lany) (defScope s_Lany) .none kV dc pm an cd ct), osl⟩) (c : PySem.W.codeIn K cd "_law_any" = true) (k : PySem.W.keepIn K (.ref f) = true) : Df K mg "_law_any" s_Lany ["_law_deck_here", "_law_deep"] :=
  ⟨_, _, fun_mk (st := s_Lany) l c k, PySem.W.mg_of X G a, (fun_mk (st := s_Lany) l c k).binds (ps := ["_law_deck_here", "_law_deep"]) fun _ _ _ _ _ _ us hl => match us, hl with | [_, _], _ => rfl⟩
theorem df_Lnumber (X : K.In h) (G : h.Ns mainGlobals mg) (a : PySem.W.nsIn K mainGlobals "_law_number" = some (some (.ref f))) (l : K.lookup f = some ⟨oc, od, .func (PySem.W.fnOf "_law_number" "_law_number" (defArgs s_Lnumber) (defBody s_Lnumber) (defScope s_Lnumber) .none kV dc pm an cd ct), osl⟩) (c : PySem.W.codeIn K cd "_law_number" = true) (k : PySem.W.keepIn K (.ref f) = true) : Df K mg "_law_number" s_Lnumber ["_law_deck_here", "_law_way"] :=
  ⟨_, _, fun_mk (st := s_Lnumber) l c k, PySem.W.mg_of X G a, (fun_mk (st := s_Lnumber) l c k).binds (ps := ["_law_deck_here", "_law_way"]) fun _ _ _ _ _ _ us hl => match us, hl with | [_, _], _ => rfl⟩
theorem df_Lpoly (X : K.In h) (G : h.Ns mainGlobals mg) (a : PySem.W.nsIn K mainGlobals "_law_poly" = some (some (.ref f))) (l : K.lookup f = some ⟨oc, od, .func (PySem.W.fnOf "_law_poly" "_law_poly" (defArgs s_Lpoly) (defBody s_Lpoly) (defScope s_Lpoly) .none kV dc pm an cd ct), osl⟩) (c : PySem.W.codeIn K cd "_law_poly" = true) (k : PySem.W.keepIn K (.ref f) = true) : Df K mg "_law_poly" s_Lpoly ["_law_deck_here"] :=
  ⟨_, _, fun_mk (st := s_Lpoly) l c k, PySem.W.mg_of X G a, (fun_mk (st := s_Lpoly) l c k).binds (ps := ["_law_deck_here"]) fun _ _ _ _ _ _ us hl => match us, hl with | [_], _ => rfl⟩
theorem df_Lfraction (X : K.In h) (G : h.Ns mainGlobals mg) (a : PySem.W.nsIn K mainGlobals "_law_fraction" = some (some (.ref f))) (l : K.lookup f = some ⟨oc, od, .func (PySem.W.fnOf "_law_fraction" "_law_fraction" (defArgs s_Lfraction) (defBody s_Lfraction) (defScope s_Lfraction) .none kV dc pm an cd ct), osl⟩) (c : PySem.W.codeIn K cd "_law_fraction" = true) (k : PySem.W.keepIn K (.ref f) = true) : Df K mg "_law_fraction" s_Lfraction ["_law_deck_here"] :=
  ⟨_, _, fun_mk (st := s_Lfraction) l c k, PySem.W.mg_of X G a, (fun_mk (st := s_Lfraction) l c k).binds (ps := ["_law_deck_here"]) fun _ _ _ _ _ _ us hl => match us, hl with | [_], _ => rfl⟩
theorem df_Lodd (X : K.In h) (G : h.Ns mainGlobals mg) (a : PySem.W.nsIn K mainGlobals "_law_odd" = some (some (.ref f))) (l : K.lookup f = some ⟨oc, od, .func (PySem.W.fnOf "_law_odd" "_law_odd" (defArgs s_Lodd) (defBody s_Lodd) (defScope s_Lodd) .none kV dc pm an cd ct), osl⟩) (c : PySem.W.codeIn K cd "_law_odd" = true) (k : PySem.W.keepIn K (.ref f) = true) : Df K mg "_law_odd" s_Lodd ["_law_deck_here", "_law_number_here"] :=
  ⟨_, _, fun_mk (st := s_Lodd) l c k, PySem.W.mg_of X G a, (fun_mk (st := s_Lodd) l c k).binds (ps := ["_law_deck_here", "_law_number_here"]) fun _ _ _ _ _ _ us hl => match us, hl with | [_, _], _ => rfl⟩
theorem df_Lis_fraction (X : K.In h) (G : h.Ns mainGlobals mg) (a : PySem.W.nsIn K mainGlobals "_law_is_fraction" = some (some (.ref f))) (l : K.lookup f = some ⟨oc, od, .func (PySem.W.fnOf "_law_is_fraction" "_law_is_fraction" (defArgs s_Lis_fraction) (defBody s_Lis_fraction) (defScope s_Lis_fraction) .none kV dc pm an cd ct), osl⟩) (c : PySem.W.codeIn K cd "_law_is_fraction" = true) (k : PySem.W.keepIn K (.ref f) = true) : Df K mg "_law_is_fraction" s_Lis_fraction ["_law_thing"] :=
  ⟨_, _, fun_mk (st := s_Lis_fraction) l c k, PySem.W.mg_of X G a, (fun_mk (st := s_Lis_fraction) l c k).binds (ps := ["_law_thing"]) fun _ _ _ _ _ _ us hl => match us, hl with | [_], _ => rfl⟩
theorem df_Lreduced (X : K.In h) (G : h.Ns mainGlobals mg) (a : PySem.W.nsIn K mainGlobals "_law_reduced" = some (some (.ref f))) (l : K.lookup f = some ⟨oc, od, .func (PySem.W.fnOf "_law_reduced" "_law_reduced" (defArgs s_Lreduced) (defBody s_Lreduced) (defScope s_Lreduced) .none kV dc pm an cd ct), osl⟩) (c : PySem.W.codeIn K cd "_law_reduced" = true) (k : PySem.W.keepIn K (.ref f) = true) : Df K mg "_law_reduced" s_Lreduced ["_law_top", "_law_bottom"] :=
  ⟨_, _, fun_mk (st := s_Lreduced) l c k, PySem.W.mg_of X G a, (fun_mk (st := s_Lreduced) l c k).binds (ps := ["_law_top", "_law_bottom"]) fun _ _ _ _ _ _ us hl => match us, hl with | [_, _], _ => rfl⟩
theorem df_Lvalue (X : K.In h) (G : h.Ns mainGlobals mg) (a : PySem.W.nsIn K mainGlobals "_law_value" = some (some (.ref f))) (l : K.lookup f = some ⟨oc, od, .func (PySem.W.fnOf "_law_value" "_law_value" (defArgs s_Lvalue) (defBody s_Lvalue) (defScope s_Lvalue) .none kV dc pm an cd ct), osl⟩) (c : PySem.W.codeIn K cd "_law_value" = true) (k : PySem.W.keepIn K (.ref f) = true) : Df K mg "_law_value" s_Lvalue ["_law_poly_here", "_law_number_here"] :=
  ⟨_, _, fun_mk (st := s_Lvalue) l c k, PySem.W.mg_of X G a, (fun_mk (st := s_Lvalue) l c k).binds (ps := ["_law_poly_here", "_law_number_here"]) fun _ _ _ _ _ _ us hl => match us, hl with | [_, _], _ => rfl⟩
theorem df_Lmoved (X : K.In h) (G : h.Ns mainGlobals mg) (a : PySem.W.nsIn K mainGlobals "_law_moved" = some (some (.ref f))) (l : K.lookup f = some ⟨oc, od, .func (PySem.W.fnOf "_law_moved" "_law_moved" (defArgs s_Lmoved) (defBody s_Lmoved) (defScope s_Lmoved) .none kV dc pm an cd ct), osl⟩) (c : PySem.W.codeIn K cd "_law_moved" = true) (k : PySem.W.keepIn K (.ref f) = true) : Df K mg "_law_moved" s_Lmoved ["_law_poly_here", "_law_number_here"] :=
  ⟨_, _, fun_mk (st := s_Lmoved) l c k, PySem.W.mg_of X G a, (fun_mk (st := s_Lmoved) l c k).binds (ps := ["_law_poly_here", "_law_number_here"]) fun _ _ _ _ _ _ us hl => match us, hl with | [_, _], _ => rfl⟩
theorem df_Lchanges (X : K.In h) (G : h.Ns mainGlobals mg) (a : PySem.W.nsIn K mainGlobals "_law_changes" = some (some (.ref f))) (l : K.lookup f = some ⟨oc, od, .func (PySem.W.fnOf "_law_changes" "_law_changes" (defArgs s_Lchanges) (defBody s_Lchanges) (defScope s_Lchanges) .none kV dc pm an cd ct), osl⟩) (c : PySem.W.codeIn K cd "_law_changes" = true) (k : PySem.W.keepIn K (.ref f) = true) : Df K mg "_law_changes" s_Lchanges ["_law_numbers"] :=
  ⟨_, _, fun_mk (st := s_Lchanges) l c k, PySem.W.mg_of X G a, (fun_mk (st := s_Lchanges) l c k).binds (ps := ["_law_numbers"]) fun _ _ _ _ _ _ us hl => match us, hl with | [_], _ => rfl⟩
theorem df_Lis_right (X : K.In h) (G : h.Ns mainGlobals mg) (a : PySem.W.nsIn K mainGlobals "_law_is_right" = some (some (.ref f))) (l : K.lookup f = some ⟨oc, od, .func (PySem.W.fnOf "_law_is_right" "_law_is_right" (defArgs s_Lis_right) (defBody s_Lis_right) (defScope s_Lis_right) .none kV dc pm an (.ref 206) ct), osl⟩) (c : PySem.W.codeIn K (.ref 206) "_law_is_right" = true) (k : PySem.W.keepIn K (.ref f) = true) : DfC K mg "_law_is_right" s_Lis_right ["_law_poly_here", "_law_number_here", "_law_way"] 206 :=
  ⟨_, _, fun_mk (st := s_Lis_right) l c k, PySem.W.mg_of X G a, (fun_mk (st := s_Lis_right) l c k).binds (ps := ["_law_poly_here", "_law_number_here", "_law_way"]) fun _ _ _ _ _ _ us hl => match us, hl with | [_, _, _], _ => rfl, rfl⟩
theorem df_Lis_along (X : K.In h) (G : h.Ns mainGlobals mg) (a : PySem.W.nsIn K mainGlobals "_law_is_along" = some (some (.ref f))) (l : K.lookup f = some ⟨oc, od, .func (PySem.W.fnOf "_law_is_along" "_law_is_along" (defArgs s_Lis_along) (defBody s_Lis_along) (defScope s_Lis_along) .none kV dc pm an cd ct), osl⟩) (c : PySem.W.codeIn K cd "_law_is_along" = true) (k : PySem.W.keepIn K (.ref f) = true) : Df K mg "_law_is_along" s_Lis_along ["_law_poly_here", "_law_number_here", "_law_far"] :=
  ⟨_, _, fun_mk (st := s_Lis_along) l c k, PySem.W.mg_of X G a, (fun_mk (st := s_Lis_along) l c k).binds (ps := ["_law_poly_here", "_law_number_here", "_law_far"]) fun _ _ _ _ _ _ us hl => match us, hl with | [_, _, _], _ => rfl⟩
theorem df_Lis_counted (X : K.In h) (G : h.Ns mainGlobals mg) (a : PySem.W.nsIn K mainGlobals "_law_is_counted" = some (some (.ref f))) (l : K.lookup f = some ⟨oc, od, .func (PySem.W.fnOf "_law_is_counted" "_law_is_counted" (defArgs s_Lis_counted) (defBody s_Lis_counted) (defScope s_Lis_counted) .none kV dc pm an (.ref 218) ct), osl⟩) (c : PySem.W.codeIn K (.ref 218) "_law_is_counted" = true) (k : PySem.W.keepIn K (.ref f) = true) : DfC K mg "_law_is_counted" s_Lis_counted ["_law_numbers", "_law_way"] 218 :=
  ⟨_, _, fun_mk (st := s_Lis_counted) l c k, PySem.W.mg_of X G a, (fun_mk (st := s_Lis_counted) l c k).binds (ps := ["_law_numbers", "_law_way"]) fun _ _ _ _ _ _ us hl => match us, hl with | [_, _], _ => rfl, rfl⟩
theorem df_law (X : K.In h) (G : h.Ns mainGlobals mg) (a : PySem.W.nsIn K mainGlobals "law" = some (some (.ref f))) (l : K.lookup f = some ⟨oc, od, .func (PySem.W.fnOf "law" "law" (defArgs s_law) (defBody s_law) (defScope s_law) .none kV dc pm an cd ct), osl⟩) (c : PySem.W.codeIn K cd "law" = true) (k : PySem.W.keepIn K (.ref f) = true) : Df K mg "law" s_law ["_law_script"] :=
  ⟨_, _, fun_mk (st := s_law) l c k, PySem.W.mg_of X G a, (fun_mk (st := s_law) l c k).binds (ps := ["_law_script"]) fun _ _ _ _ _ _ us hl => match us, hl with | [_], _ => rfl⟩
theorem told_f (X : K.In h) (G : h.Ns mainGlobals mg) (a : PySem.W.nsIn K mainGlobals "_law_told" = some (some (.ref f))) (l : K.lookup f = some ⟨oc, od, .func (PySem.W.fnOf "_law_told" "_law_told" (defArgs s_Ltold) (defBody s_Ltold) (defScope s_Ltold) .none kV dc pm an cd ct), osl⟩) (c : PySem.W.codeIn K cd "_law_told" = true) (k : PySem.W.keepIn K (.ref f) = true)
    (aC : PySem.W.nsIn K mainGlobals "BadFraction" = some (some (.ref 44))) (ga : PySem.W.findIn K (.ref 44) "__getattribute__" = some (some (.builtin "BaseException.__getattribute__"))) (gg : PySem.W.findIn K (.ref 44) "__getattr__" = some none) (exC : PySem.W.subIn K (.ref 44) (.type "BaseException") = some true) (hdC : PySem.W.hasDictIn K 44 = true)
    (no : PySem.W.findIn K (.ref 44) "thing" = some none) (tyC : PySem.W.typeIn K (.ref 44) = some (.type "type")) (ss : PySem.W.subIn K (.ref 44) (.ref 44) = some true) : ToldF K mg "_law_told" "_law_deed" "e" "BadFraction" s_Ltold CF "thing" where
  ex := ⟨f, oc, od, kV, dc, pm, an, cd, ct, osl, PySem.W.mg_of X G a, k, l, c, (fun_mk (st := s_Ltold) l c k).binds (ps := ["_law_deed"]) fun _ _ _ _ _ _ us hl => match us, hl with | [_], _ => rfl⟩
  xf := ⟨ga, gg, exC, hdC⟩
  no := no
  xm := PySem.W.exm_ref exC hdC tyC ss
  mgE := PySem.W.mg_of X G aC
  sc := ⟨rfl, rfl, rfl, by decide +kernel, rfl, by decide +kernel, by decide +kernel⟩
abbrev sXi : Stmt := inClass (top 2) 0
theorem sc_xi : FnScope ["self", "thing"] ["self", "thing"] (defScope sXi) := ⟨rfl, rfl, rfl, by decide +kernel, rfl, by decide +kernel, by decide +kernel⟩
theorem rs_f {P : Program} {w : World} {base : Heap} {C0 N : Addr} {nm q : Str} {bs : List Value} {sn : List Str} {sub : List Value} {ab : Bool} {col : Option Bool} {dd : Option Addr} {k0 k1 k2 k3 k5 : Option Value} (X : K.In h) (G : h.Ns mainGlobals mg) (aC : PySem.W.nsIn K mainGlobals "BadFraction" = some (some (.ref 44)))
    (lC : K.lookup 44 = some (excClassObj nm q 44 N bs [.ref C0, .type "Exception", .type "BaseException", .type "object"] true sn sub ab col dd k0 k1 k2 k3 k5 "Exception.__new__"))
    (sa : PySem.W.findIn K (.ref 44) "__setattr__" = some (some (.builtin "object.__setattr__"))) (exC : PySem.W.subIn K (.ref 44) (.type "BaseException") = some true) (tyC : PySem.W.typeIn K (.ref 44) = some (.type "type")) (kC : PySem.W.keepIn K (.ref 44) = true)
    (no : PySem.W.findIn K (.ref 44) "thing" = some none) (iC : PySem.W.findIn K (.ref 44) "__init__" = some (some (.ref f))) (tI : PySem.W.typeIn K (.ref f) = some (.type "function"))
    (l : K.lookup f = some ⟨oc, od, .func (PySem.W.fnOf "__init__" "BadFraction.__init__" (defArgs sXi) (defBody sXi) (defScope sXi) .none kV dc pm an cd ct), osl⟩) (c : PySem.W.codeIn K cd "BadFraction.__init__" = true) (k : PySem.W.keepIn K (.ref f) = true) : Rs P w K mg base "BadFraction" "thing" CF where
  T := ⟨⟨nm, q, N, bs, [C0], sn, sub, ab, col, dd, k0, k1, k2, k3, k5, lC⟩, sa, exC, tyC, kC⟩
  no := no
  mgC := PySem.W.mg_of X G aC
  ini := ⟨f, _, ["self", "thing"], iC, tI, xc_init (fun_mk (st := sXi) l c k) sc_xi rfl (.inl rfl) (.inl rfl) (by decide) (by decide) (by decide) (by decide) (fun _ => rfl), (fun_mk (st := sXi) l c k).binds (ps := ["self", "thing"]) fun _ _ _ _ _ _ us hl => match us, hl with | [_, _], _ => rfl⟩
end
/-! ### all of them -/
abbrev TT : List (Addr × Str) := [(202, "_law_is_right.<locals>.<lambda>"), (216, "_law_is_counted.<locals>.<lambda>")]
abbrev WD : Wd := ⟨"cells", "mixed", "draws", TT⟩
theorem tt_ne : ((202 : Addr) = 216) = False := by decide
set_option maxHeartbeats 4000000 in
theorem all_law {P : Program} {w : World} {K : PySem.W.Frag} {mg : Str → Option Value} {base : Heap} (B : Blt mg) (D_is_whole : Df K mg "is_whole" s_is_whole ["thing"])
    (D_is_fraction : Df K mg "is_fraction" s_is_fraction ["thing"])
    (D_need_fraction : Df K mg "need_fraction" s_need_fraction ["thing"])
    (D_common_divisor : Df K mg "common_divisor" s_common_divisor ["one", "other"])
    (D_reduced : Df K mg "reduced" s_reduced ["top", "bottom"])
    (D_poly_value : Df K mg "poly_value" s_poly_value ["poly", "number"])
    (D_moved_tops : Df K mg "moved_tops" s_moved_tops ["poly", "number"])
    (D_moved_poly : Df K mg "moved_poly" s_moved_poly ["poly", "number"])
    (D_many_changes : Df K mg "many_changes" s_many_changes ["numbers"])
    (D_sign_changes : Df K mg "sign_changes" s_sign_changes ["numbers"])
    (D_Ldeck : Df K mg "_law_deck" sDeck ["_law_script"])
    (D_Ldraw : Df K mg "_law_draw" sDraw ["_law_deck_here", "_law_many"])
    (D_Lpick : Df K mg "_law_pick" s_Lpick ["_law_deck_here", "_law_some"])
    (D_Lany : Df K mg "_law_any" s_Lany ["_law_deck_here", "_law_deep"])
    (D_Lnumber : Df K mg "_law_number" s_Lnumber ["_law_deck_here", "_law_way"])
    (D_Lpoly : Df K mg "_law_poly" s_Lpoly ["_law_deck_here"])
    (D_Lfraction : Df K mg "_law_fraction" s_Lfraction ["_law_deck_here"])
    (D_Lodd : Df K mg "_law_odd" s_Lodd ["_law_deck_here", "_law_number_here"])
    (D_Lis_fraction : Df K mg "_law_is_fraction" s_Lis_fraction ["_law_thing"])
    (D_Lreduced : Df K mg "_law_reduced" s_Lreduced ["_law_top", "_law_bottom"])
    (D_Lvalue : Df K mg "_law_value" s_Lvalue ["_law_poly_here", "_law_number_here"])
    (D_Lmoved : Df K mg "_law_moved" s_Lmoved ["_law_poly_here", "_law_number_here"])
    (D_Lchanges : Df K mg "_law_changes" s_Lchanges ["_law_numbers"])
    (D_Lis_right : DfC K mg "_law_is_right" s_Lis_right ["_law_poly_here", "_law_number_here", "_law_way"] 206)
    (D_Lis_along : Df K mg "_law_is_along" s_Lis_along ["_law_poly_here", "_law_number_here", "_law_far"])
    (D_Lis_counted : DfC K mg "_law_is_counted" s_Lis_counted ["_law_numbers", "_law_way"] 218)
    (K_poly_value : DfK K mg "poly_value" s_poly_value ["poly", "number"] ["number", "poly"] [1, 0])
    (K_moved_poly : DfK K mg "moved_poly" s_moved_poly ["poly", "number"] ["number", "poly"] [1, 0])
    (K_sign_changes : DfK K mg "sign_changes" s_sign_changes ["numbers"] ["numbers"] [0])
    (RS : Rs P w K mg base "BadFraction" "thing" CF) (TO : ToldF K mg "_law_told" "_law_deed" "e" "BadFraction" s_Ltold CF "thing") (T1 : LamX.TabB base mg 206 202) (T2 : LamX.TabB base mg 218 216) {f : Addr} {fd : FuncData} (F : L2.Fun K "law" "law" s_law f fd) :
    FnR NoGu P w K mg base (L2.CX P w) 60 f fd ["_law_script"] (spLaw K TT) := by
  have up : ∀ {j k : Nat} {x : Str} {ps : List Str} {Fd : FD}, Cal Tru P w K mg base j x ps WD Fd → j ≤ k → Cal Tru P w K mg base k x ps WD Fd := fun c h => c.mono h fun _ _ => True.intro
  have un : ∀ {j k : Nat} {x : Str} {ps : List Str} {Fd : FD}, Cal Tru P w K mg base j x ps WD Fd → j ≤ k → Cal NoGu P w K mg base k x ps WD Fd := fun c h => c.mono h fun _ _ => True.intro
  have nn : ∀ {j k : Nat} {x : Str} {ps : List Str} {Fd : FD}, Cal NoGu P w K mg base j x ps WD Fd → j ≤ k → Cal NoGu P w K mg base k x ps WD Fd := fun c h => c.mono h fun _ h => h
  have uk : ∀ {j k : Nat} {x : Str} {ps ks : List Str} {is : List Nat} {Fd : FD}, CalK Tru P w K mg base j x ps ks is WD Fd → j ≤ k → CalK Tru P w K mg base k x ps ks is WD Fd := fun c h => Z.CalK.mono c h fun _ _ => True.intro
  have c_is_whole : Cal Tru P w K mg base 1 "is_whole" ["thing"] WD F_is_whole := cal_of D_is_whole fun f fd F => fn_is_whole tru_deeper (k := 0) B  F
  have c_common_divisor : Cal Tru P w K mg base 1 "common_divisor" ["one", "other"] WD F_common_divisor := cal_of D_common_divisor fun f fd F => fn_common_divisor tru_deeper (k := 0) B  F
  have c_moved_tops : Cal Tru P w K mg base 1 "moved_tops" ["poly", "number"] WD F_moved_tops := cal_of D_moved_tops fun f fd F => fn_moved_tops tru_deeper (k := 0) B  F
  have c_many_changes : Cal Tru P w K mg base 1 "many_changes" ["numbers"] WD F_many_changes := cal_of D_many_changes fun f fd F => fn_many_changes tru_deeper (k := 0) B  F
  have c_is_fraction : Cal Tru P w K mg base 2 "is_fraction" ["thing"] WD F_is_fraction := cal_of D_is_fraction fun f fd F => fn_is_fraction tru_deeper (k := 1) B (up c_is_whole (by decide : _ ≤ 1)) F
  have c_reduced : Cal Tru P w K mg base 2 "reduced" ["top", "bottom"] WD F_reduced := cal_of D_reduced fun f fd F => fn_reduced tru_deeper (k := 1) B (up c_common_divisor (by decide : _ ≤ 1)) F
  have c_need_fraction : Cal Tru P w K mg base 3 "need_fraction" ["thing"] WD F_need_fraction := cal_of D_need_fraction fun f fd F => fn_need_fraction tru_deeper (k := 2) B (up c_is_fraction (by decide : _ ≤ 2)) RS (by decide) F
  have c_poly_value : Cal Tru P w K mg base 4 "poly_value" ["poly", "number"] WD F_poly_value := cal_of D_poly_value fun f fd F => fn_poly_value tru_deeper (k := 3) B (up c_need_fraction (by decide : _ ≤ 3)) (up c_reduced (by decide : _ ≤ 3)) F
  have k_poly_value : CalK Tru P w K mg base 4 "poly_value" ["poly", "number"] ["number", "poly"] [1, 0] WD F_poly_value := calK_of K_poly_value fun f fd F => fn_poly_value tru_deeper (k := 3) B (up c_need_fraction (by decide : _ ≤ 3)) (up c_reduced (by decide : _ ≤ 3)) F
  have c_moved_poly : Cal Tru P w K mg base 4 "moved_poly" ["poly", "number"] WD F_moved_poly := cal_of D_moved_poly fun f fd F => fn_moved_poly tru_deeper (k := 3) B (up c_need_fraction (by decide : _ ≤ 3)) (up c_moved_tops (by decide : _ ≤ 3)) (up c_reduced (by decide : _ ≤ 3)) F
  have k_moved_poly : CalK Tru P w K mg base 4 "moved_poly" ["poly", "number"] ["number", "poly"] [1, 0] WD F_moved_poly := calK_of K_moved_poly fun f fd F => fn_moved_poly tru_deeper (k := 3) B (up c_need_fraction (by decide : _ ≤ 3)) (up c_moved_tops (by decide : _ ≤ 3)) (up c_reduced (by decide : _ ≤ 3)) F
  have c_sign_changes : Cal Tru P w K mg base 4 "sign_changes" ["numbers"] WD F_sign_changes := cal_of D_sign_changes fun f fd F => fn_sign_changes tru_deeper (k := 3) B (up c_need_fraction (by decide : _ ≤ 3)) (up c_many_changes (by decide : _ ≤ 3)) F
  have k_sign_changes : CalK Tru P w K mg base 4 "sign_changes" ["numbers"] ["numbers"] [0] WD F_sign_changes := calK_of K_sign_changes fun f fd F => fn_sign_changes tru_deeper (k := 3) B (up c_need_fraction (by decide : _ ≤ 3)) (up c_many_changes (by decide : _ ≤ 3)) F
  have c_Ldraw : Cal Tru P w K mg base 1 "_law_draw" ["_law_deck_here", "_law_many"] WD F_Ldraw := cal_draw B D_Ldraw
  have c_Lpick : Cal Tru P w K mg base 2 "_law_pick" ["_law_deck_here", "_law_some"] WD F_Lpick := cal_of D_Lpick fun f fd F => fn_Lpick tru_deeper (k := 1) B (up c_Ldraw (by decide : _ ≤ 1)) F
  have c_Lany : Cal Tru P w K mg base (2 + 1 + 3) "_law_any" ["_law_deck_here", "_law_deep"] WD F_Lany := cal_any tru_deeper B D_Lany (up c_Ldraw (by decide : _ ≤ 2)) (up c_Lpick (by decide : _ ≤ 2)) 3
  have c_Lnumber : Cal Tru P w K mg base 2 "_law_number" ["_law_deck_here", "_law_way"] WD F_Lnumber := cal_of D_Lnumber fun f fd F => fn_Lnumber tru_deeper (k := 1) B (up c_Ldraw (by decide : _ ≤ 1)) F
  have c_Lpoly : Cal Tru P w K mg base 3 "_law_poly" ["_law_deck_here"] WD F_Lpoly := cal_of D_Lpoly fun f fd F => fn_Lpoly tru_deeper (k := 2) B (up c_Ldraw (by decide : _ ≤ 2)) (up c_Lnumber (by decide : _ ≤ 2)) F
  have c_Lfraction : Cal Tru P w K mg base 2 "_law_fraction" ["_law_deck_here"] WD F_Lfraction := cal_of D_Lfraction fun f fd F => fn_Lfraction tru_deeper (k := 1) B (up c_Ldraw (by decide : _ ≤ 1)) F
  have c_Lodd : Cal Tru P w K mg base 7 "_law_odd" ["_law_deck_here", "_law_number_here"] WD F_Lodd := cal_of D_Lodd fun f fd F => fn_Lodd tru_deeper (k := 6) B (up c_Ldraw (by decide : _ ≤ 6)) (up c_Lany (by decide : _ ≤ 6)) (up c_Lpick (by decide : _ ≤ 6)) F
  have c_Lis_fraction : Cal Tru P w K mg base 1 "_law_is_fraction" ["_law_thing"] WD F_Lis_fraction := cal_of D_Lis_fraction fun f fd F => fn_Lis_fraction tru_deeper (k := 0) B  F
  have c_Lreduced : Cal Tru P w K mg base 1 "_law_reduced" ["_law_top", "_law_bottom"] WD F_Lreduced := cal_of D_Lreduced fun f fd F => fn_Lreduced tru_deeper (k := 0) B  F
  have c_Lvalue : Cal Tru P w K mg base 2 "_law_value" ["_law_poly_here", "_law_number_here"] WD F_Lvalue := cal_of D_Lvalue fun f fd F => fn_Lvalue tru_deeper (k := 1) B (up c_Lreduced (by decide : _ ≤ 1)) F
  have c_Lmoved : Cal Tru P w K mg base 2 "_law_moved" ["_law_poly_here", "_law_number_here"] WD F_Lmoved := cal_of D_Lmoved fun f fd F => fn_Lmoved tru_deeper (k := 1) B (up c_Lreduced (by decide : _ ≤ 1)) F
  have c_Lchanges : Cal Tru P w K mg base 1 "_law_changes" ["_law_numbers"] WD F_Lchanges := cal_of D_Lchanges fun f fd F => fn_Lchanges tru_deeper (k := 0) B  F
  have c_Lis_along : Cal NoGu P w K mg base 7 "_law_is_along" ["_law_poly_here", "_law_number_here", "_law_far"] WD F_Lis_along := cal_of D_Lis_along fun f fd F => fn_Lis_along (k := 6) B (un c_moved_poly (by decide : _ ≤ 6)) (un c_Lreduced (by decide : _ ≤ 6)) (un c_poly_value (by decide : _ ≤ 6)) F
  have c_Lis_right : Cal NoGu P w K mg base 7 "_law_is_right" ["_law_poly_here", "_law_number_here", "_law_way"] WD F_Lis_right := calC_of D_Lis_right fun f fd F hc => fn_Lis_right (k := 6) B (up c_poly_value (by decide : _ ≤ 4)) (up c_moved_poly (by decide : _ ≤ 4)) (uk k_poly_value (by decide : _ ≤ 4)) (uk k_moved_poly (by decide : _ ≤ 4)) (by decide) TO T1 (by decide +kernel) (by decide +kernel) (un c_Lis_fraction (by decide : _ ≤ 6)) (un c_Lvalue (by decide : _ ≤ 6)) (un c_Lmoved (by decide : _ ≤ 6)) F hc
  have c_Lis_counted : Cal NoGu P w K mg base 7 "_law_is_counted" ["_law_numbers", "_law_way"] WD F_Lis_counted := calC_of D_Lis_counted fun f fd F hc => fn_Lis_counted (k := 6) B (up c_sign_changes (by decide : _ ≤ 4)) (uk k_sign_changes (by decide : _ ≤ 4)) (by decide) TO T2 (by decide +kernel) (by decide +kernel) (un c_Lis_fraction (by decide : _ ≤ 6)) (un c_Lchanges (by decide : _ ≤ 6)) F hc
  exact fn_law (k := 59) B D_Ldeck (by decide) (un c_Lpoly (by decide : _ ≤ 59)) (un c_Lfraction (by decide : _ ≤ 59)) (un c_Lodd (by decide : _ ≤ 59)) (un c_Lreduced (by decide : _ ≤ 59)) (nn c_Lis_right (by decide : _ ≤ 59)) (un c_Lpick (by decide : _ ≤ 59)) (un c_Ldraw (by decide : _ ≤ 59)) (nn c_Lis_along (by decide : _ ≤ 59)) (nn c_Lis_counted (by decide : _ ≤ 59)) (un c_moved_poly (by decide : _ ≤ 59)) F
theorem law_r {L : PySem.W.OpenLaw} {w : World} {K : PySem.W.Frag} {h : Heap} {mg : Str → Option Value} {fa f : Addr} {od an : Option Addr} {osl : Array (Option Value)} {oc kV dc pm cd ct : Value} (X : K.In h) (G : h.Ns mainGlobals mg) (hmg : mg "law" = some (.ref fa))
    (a : PySem.W.nsIn K mainGlobals "law" = some (some (.ref f))) (l : K.lookup f = some ⟨oc, od, .func (PySem.W.fnOf "law" "law" (defArgs s_law) (defBody s_law) (defScope s_law) .none kV dc pm an cd ct), osl⟩) (c : PySem.W.codeIn K cd "law" = true) (k : PySem.W.keepIn K (.ref f) = true)
    (t1 : h.get? 202 = some { cls := .none, data := .fields #[] }) (t2 : h.get? 216 = some { cls := .none, data := .fields #[] }) (n1 : K.lookup 202 = none) (n2 : K.lookup 216 = none) (e1 : PySem.W.codeHdIn K 206 202 = true) (e2 : PySem.W.codeHdIn K 218 216 = true) (nS : K.lookup sysModules = none)
    (B : Blt mg) (D_is_whole : Df K mg "is_whole" s_is_whole ["thing"])
    (D_is_fraction : Df K mg "is_fraction" s_is_fraction ["thing"])
    (D_need_fraction : Df K mg "need_fraction" s_need_fraction ["thing"])
    (D_common_divisor : Df K mg "common_divisor" s_common_divisor ["one", "other"])
    (D_reduced : Df K mg "reduced" s_reduced ["top", "bottom"])
    (D_poly_value : Df K mg "poly_value" s_poly_value ["poly", "number"])
    (D_moved_tops : Df K mg "moved_tops" s_moved_tops ["poly", "number"])
    (D_moved_poly : Df K mg "moved_poly" s_moved_poly ["poly", "number"])
    (D_many_changes : Df K mg "many_changes" s_many_changes ["numbers"])
    (D_sign_changes : Df K mg "sign_changes" s_sign_changes ["numbers"])
    (D_Ldeck : Df K mg "_law_deck" sDeck ["_law_script"])
    (D_Ldraw : Df K mg "_law_draw" sDraw ["_law_deck_here", "_law_many"])
    (D_Lpick : Df K mg "_law_pick" s_Lpick ["_law_deck_here", "_law_some"])
    (D_Lany : Df K mg "_law_any" s_Lany ["_law_deck_here", "_law_deep"])
    (D_Lnumber : Df K mg "_law_number" s_Lnumber ["_law_deck_here", "_law_way"])
    (D_Lpoly : Df K mg "_law_poly" s_Lpoly ["_law_deck_here"])
    (D_Lfraction : Df K mg "_law_fraction" s_Lfraction ["_law_deck_here"])
    (D_Lodd : Df K mg "_law_odd" s_Lodd ["_law_deck_here", "_law_number_here"])
    (D_Lis_fraction : Df K mg "_law_is_fraction" s_Lis_fraction ["_law_thing"])
    (D_Lreduced : Df K mg "_law_reduced" s_Lreduced ["_law_top", "_law_bottom"])
    (D_Lvalue : Df K mg "_law_value" s_Lvalue ["_law_poly_here", "_law_number_here"])
    (D_Lmoved : Df K mg "_law_moved" s_Lmoved ["_law_poly_here", "_law_number_here"])
    (D_Lchanges : Df K mg "_law_changes" s_Lchanges ["_law_numbers"])
    (D_Lis_right : DfC K mg "_law_is_right" s_Lis_right ["_law_poly_here", "_law_number_here", "_law_way"] 206)
    (D_Lis_along : Df K mg "_law_is_along" s_Lis_along ["_law_poly_here", "_law_number_here", "_law_far"])
    (D_Lis_counted : DfC K mg "_law_is_counted" s_Lis_counted ["_law_numbers", "_law_way"] 218)
    (K_poly_value : DfK K mg "poly_value" s_poly_value ["poly", "number"] ["number", "poly"] [1, 0])
    (K_moved_poly : DfK K mg "moved_poly" s_moved_poly ["poly", "number"] ["number", "poly"] [1, 0])
    (K_sign_changes : DfK K mg "sign_changes" s_sign_changes ["numbers"] ["numbers"] [0])
    (RS : ∀ base, Rs L.prog w K mg base "BadFraction" "thing" CF) (TO : ToldF K mg "_law_told" "_law_deed" "e" "BadFraction" s_Ltold CF "thing") : LawR L w K 60 63 "_law_script" mg fa h := by
  have e := hmg.symm.trans (PySem.W.mg_of X G a)
  cases e
  refine ⟨_, [(206, 202), (218, 216)], spLaw K TT, ?_, ?_, ?_, nS, fun s u => .of_eq rfl, ?_, fun base hK hns tb => all_law B D_is_whole D_is_fraction D_need_fraction D_common_divisor D_reduced D_poly_value D_moved_tops D_moved_poly D_many_changes D_sign_changes D_Ldeck D_Ldraw D_Lpick D_Lany D_Lnumber D_Lpoly D_Lfraction D_Lodd D_Lis_fraction D_Lreduced D_Lvalue D_Lmoved D_Lchanges D_Lis_right D_Lis_along D_Lis_counted K_poly_value K_moved_poly K_sign_changes (RS base) TO (tb (206, 202) (.head _)) (tb (218, 216) (.tail _ (.head _))) (fun_mk (st := s_law) l c k)⟩
  · intro p hp
    simp only [List.mem_cons, List.not_mem_nil, or_false] at hp
    rcases hp with rfl | rfl
    · exact t1
    · exact t2
  · intro p hp
    simp only [List.mem_cons, List.not_mem_nil, or_false] at hp
    rcases hp with rfl | rfl
    · exact n1
    · exact n2
  · intro p hp
    simp only [List.mem_cons, List.not_mem_nil, or_false] at hp
    rcases hp with rfl | rfl
    · exact PySem.W.codeHd_of_K X e1
    · exact PySem.W.codeHd_of_K X e2
  · rintro H a ns hl ⟨h1, h2, h3⟩
    refine ⟨a, ns, rfl, h2, hl, fun p hp => ?_, h3, fun _ => rfl⟩
    simp only [List.mem_cons, List.not_mem_nil, or_false] at hp
    rcases hp with rfl | rfl
    · exact h1 (206, 202) (.head _)
    · exact h1 (218, 216) (.tail _ (.head _))
end Z

open PySem PySem.W PyProof.Rows in
set_option maxRecDepth 100000 in
set_option maxHeartbeats 0 in
theorem PySem.Challenge.cw_withintwo_k11_polynomials_and_fractions_holds : PySem.Challenge.rw_withintwo_k11_polynomials_and_fractions.Holds := by
  w_on; o_law; k_head; (case hw => w_witness2)
  k_fill
  refine DL.walkR (n := 63) (k := 60) (x := "_law_script") rfl (by decide) rfl ⟨rfl, by decide, by decide⟩ (fun w h Y => PySem.W.km_in_of Y) (by rfl) ?F
  case F =>
    intro w mg fa h Y KX G hmg
    have hT8 := PySem.W.km_tabs_of Y
    clear Y
    have hmg : mg "law" = some (.ref fa) := hmg
    have D_is_whole := by refine' Z.df_is_whole (K := cw_withintwo_k11_polynomials_and_fractions_holds.heap_39 w.params) KX G ?a ?l ?c ?k; (case a => k_is); (case l => k_is); (case c => k_is); (case k => k_is)
    have D_is_fraction := by refine' Z.df_is_fraction (K := cw_withintwo_k11_polynomials_and_fractions_holds.heap_39 w.params) KX G ?a ?l ?c ?k; (case a => k_is); (case l => k_is); (case c => k_is); (case k => k_is)
    have D_need_fraction := by refine' Z.df_need_fraction (K := cw_withintwo_k11_polynomials_and_fractions_holds.heap_39 w.params) KX G ?a ?l ?c ?k; (case a => k_is); (case l => k_is); (case c => k_is); (case k => k_is)
    have D_common_divisor := by refine' Z.df_common_divisor (K := cw_withintwo_k11_polynomials_and_fractions_holds.heap_39 w.params) KX G ?a ?l ?c ?k; (case a => k_is); (case l => k_is); (case c => k_is); (case k => k_is)
    have D_reduced := by refine' Z.df_reduced (K := cw_withintwo_k11_polynomials_and_fractions_holds.heap_39 w.params) KX G ?a ?l ?c ?k; (case a => k_is); (case l => k_is); (case c => k_is); (case k => k_is)
    have D_poly_value := by refine' Z.df_poly_value (K := cw_withintwo_k11_polynomials_and_fractions_holds.heap_39 w.params) KX G ?a ?l ?c ?k; (case a => k_is); (case l => k_is); (case c => k_is); (case k => k_is)
    have D_moved_tops := by refine' Z.df_moved_tops (K := cw_withintwo_k11_polynomials_and_fractions_holds.heap_39 w.params) KX G ?a ?l ?c ?k; (case a => k_is); (case l => k_is); (case c => k_is); (case k => k_is)
    have D_moved_poly := by refine' Z.df_moved_poly (K := cw_withintwo_k11_polynomials_and_fractions_holds.heap_39 w.params) KX G ?a ?l ?c ?k; (case a => k_is); (case l => k_is); (case c => k_is); (case k => k_is)
    have D_many_changes := by refine' Z.df_many_changes (K := cw_withintwo_k11_polynomials_and_fractions_holds.heap_39 w.params) KX G ?a ?l ?c ?k; (case a => k_is); (case l => k_is); (case c => k_is); (case k => k_is)
    have D_sign_changes := by refine' Z.df_sign_changes (K := cw_withintwo_k11_polynomials_and_fractions_holds.heap_39 w.params) KX G ?a ?l ?c ?k; (case a => k_is); (case l => k_is); (case c => k_is); (case k => k_is)
    have D_Ldeck := by refine' Z.df_Ldeck (K := cw_withintwo_k11_polynomials_and_fractions_holds.heap_39 w.params) KX G ?a ?l ?c ?k; (case a => k_is); (case l => k_is); (case c => k_is); (case k => k_is)
    have D_Ldraw := by refine' Z.df_Ldraw (K := cw_withintwo_k11_polynomials_and_fractions_holds.heap_39 w.params) KX G ?a ?l ?c ?k; (case a => k_is); (case l => k_is); (case c => k_is); (case k => k_is)
    have D_Lpick := by refine' Z.df_Lpick (K := cw_withintwo_k11_polynomials_and_fractions_holds.heap_39 w.params) KX G ?a ?l ?c ?k; (case a => k_is); (case l => k_is); (case c => k_is); (case k => k_is)
    have D_Lany := by refine' Z.df_Lany (K := cw_withintwo_k11_polynomials_and_fractions_holds.heap_39 w.params) KX G ?a ?l ?c ?k; (case a => k_is); (case l => k_is); (case c => k_is); (case k => k_is)
    have D_Lnumber := by refine' Z.df_Lnumber (K := cw_withintwo_k11_polynomials_and_fractions_holds.heap_39 w.params) KX G ?a ?l ?c ?k; (case a => k_is); (case l => k_is); (case c => k_is); (case k => k_is)
    have D_Lpoly := by refine' Z.df_Lpoly (K := cw_withintwo_k11_polynomials_and_fractions_holds.heap_39 w.params) KX G ?a ?l ?c ?k; (case a => k_is); (case l => k_is); (case c => k_is); (case k => k_is)
    have D_Lfraction := by refine' Z.df_Lfraction (K := cw_withintwo_k11_polynomials_and_fractions_holds.heap_39 w.params) KX G ?a ?l ?c ?k; (case a => k_is); (case l => k_is); (case c => k_is); (case k => k_is)
    have D_Lodd := by refine' Z.df_Lodd (K := cw_withintwo_k11_polynomials_and_fractions_holds.heap_39 w.params) KX G ?a ?l ?c ?k; (case a => k_is); (case l => k_is); (case c => k_is); (case k => k_is)
    have D_Lis_fraction := by refine' Z.df_Lis_fraction (K := cw_withintwo_k11_polynomials_and_fractions_holds.heap_39 w.params) KX G ?a ?l ?c ?k; (case a => k_is); (case l => k_is); (case c => k_is); (case k => k_is)
    have D_Lreduced := by refine' Z.df_Lreduced (K := cw_withintwo_k11_polynomials_and_fractions_holds.heap_39 w.params) KX G ?a ?l ?c ?k; (case a => k_is); (case l => k_is); (case c => k_is); (case k => k_is)
    have D_Lvalue := by refine' Z.df_Lvalue (K := cw_withintwo_k11_polynomials_and_fractions_holds.heap_39 w.params) KX G ?a ?l ?c ?k; (case a => k_is); (case l => k_is); (case c => k_is); (case k => k_is)
    have D_Lmoved := by refine' Z.df_Lmoved (K := cw_withintwo_k11_polynomials_and_fractions_holds.heap_39 w.params) KX G ?a ?l ?c ?k; (case a => k_is); (case l => k_is); (case c => k_is); (case k => k_is)
    have D_Lchanges := by refine' Z.df_Lchanges (K := cw_withintwo_k11_polynomials_and_fractions_holds.heap_39 w.params) KX G ?a ?l ?c ?k; (case a => k_is); (case l => k_is); (case c => k_is); (case k => k_is)
    have D_Lis_right := by refine' Z.df_Lis_right (K := cw_withintwo_k11_polynomials_and_fractions_holds.heap_39 w.params) KX G ?a ?l ?c ?k; (case a => k_is); (case l => k_is); (case c => k_is); (case k => k_is)
    have D_Lis_along := by refine' Z.df_Lis_along (K := cw_withintwo_k11_polynomials_and_fractions_holds.heap_39 w.params) KX G ?a ?l ?c ?k; (case a => k_is); (case l => k_is); (case c => k_is); (case k => k_is)
    have D_Lis_counted := by refine' Z.df_Lis_counted (K := cw_withintwo_k11_polynomials_and_fractions_holds.heap_39 w.params) KX G ?a ?l ?c ?k; (case a => k_is); (case l => k_is); (case c => k_is); (case k => k_is)
    have K_poly_value := by refine' Z.dk_poly_value (K := cw_withintwo_k11_polynomials_and_fractions_holds.heap_39 w.params) KX G ?a ?l ?c ?k; (case a => k_is); (case l => k_is); (case c => k_is); (case k => k_is)
    have K_moved_poly := by refine' Z.dk_moved_poly (K := cw_withintwo_k11_polynomials_and_fractions_holds.heap_39 w.params) KX G ?a ?l ?c ?k; (case a => k_is); (case l => k_is); (case c => k_is); (case k => k_is)
    have K_sign_changes := by refine' Z.dk_sign_changes (K := cw_withintwo_k11_polynomials_and_fractions_holds.heap_39 w.params) KX G ?a ?l ?c ?k; (case a => k_is); (case l => k_is); (case c => k_is); (case k => k_is)
    have B : DL.Blt mg := ⟨PySem.W.mg_none_of KX G (by k_is), PySem.W.mg_none_of KX G (by k_is), PySem.W.mg_none_of KX G (by k_is), PySem.W.mg_none_of KX G (by k_is), PySem.W.mg_none_of KX G (by k_is), PySem.W.mg_none_of KX G (by k_is), PySem.W.mg_none_of KX G (by k_is), PySem.W.mg_none_of KX G (by k_is), PySem.W.mg_none_of KX G (by k_is), PySem.W.mg_none_of KX G (by k_is), PySem.W.mg_none_of KX G (by k_is), PySem.W.mg_none_of KX G (by k_is), PySem.W.mg_none_of KX G (by k_is)⟩
    have TO := by refine' Z.told_f (K := cw_withintwo_k11_polynomials_and_fractions_holds.heap_39 w.params) KX G ?a ?l ?c ?k ?aC ?ga ?gg ?exC ?hdC ?no ?tyC ?ss; (case a => k_is); (case l => k_is); (case c => k_is); (case k => k_is); (case aC => k_is); (case ga => k_is); (case gg => k_is); (case exC => k_is); (case hdC => k_is); (case no => k_is); (case tyC => k_is); (case ss => k_is)
    have RS : ∀ base, DL.Rs PySem.Challenge.rw_withintwo_k11_polynomials_and_fractions.prog w (cw_withintwo_k11_polynomials_and_fractions_holds.heap_39 w.params) mg base "BadFraction" "thing" Z.CF := fun base => by refine' Z.rs_f (K := cw_withintwo_k11_polynomials_and_fractions_holds.heap_39 w.params) KX G ?aC ?lC ?sa ?exC ?tyC ?kC ?no ?iC ?tI ?l ?c ?k; (case aC => k_is); (case lC => k_is); (case sa => k_is); (case exC => k_is); (case tyC => k_is); (case kC => k_is); (case no => k_is); (case iC => k_is); (case tI => k_is); (case l => k_is); (case c => k_is); (case k => k_is)
    refine' Z.law_r (K := cw_withintwo_k11_polynomials_and_fractions_holds.heap_39 w.params) KX G hmg ?a ?l ?c ?k (hT8 202 (by decide)) (hT8 216 (by decide)) ?n1 ?n2 ?e1 ?e2 ?nS B D_is_whole D_is_fraction D_need_fraction D_common_divisor D_reduced D_poly_value D_moved_tops D_moved_poly D_many_changes D_sign_changes D_Ldeck D_Ldraw D_Lpick D_Lany D_Lnumber D_Lpoly D_Lfraction D_Lodd D_Lis_fraction D_Lreduced D_Lvalue D_Lmoved D_Lchanges D_Lis_right D_Lis_along D_Lis_counted K_poly_value K_moved_poly K_sign_changes RS TO
    (case a => k_is)
    (case l => k_is)
    (case c => k_is)
    (case k => k_is)
    (case n1 => rfl)
    (case n2 => rfl)
    (case e1 => rfl)
    (case e2 => rfl)
    (case nS => rfl)
#print axioms PySem.Challenge.cw_withintwo_k11_polynomials_and_fractions_holds

