import PyProof.Rows.All
import Wide.All
import OpenK.AllK
import Wide.FinOn
import HandS.ForMost
import HandS.Exc
import HandS.ExcOwn
import HandS.WordsExc
import HandS.ExcInit
import HandS.ExcField
import HandS.TryMany
import HandS.IsInst
import HandS.Wide
import HandS.Defaults
import HandS.Lambda
import HandS.EndTab
import HandS.TupAny
import HandS.TupMul
import HandS.Style
import HandS.Rev
import HandS.RevRange
import HandS.Zip
import HandS.Iter
import HandS.Dict
import HandS.RevTup
import KE.KRevSl
import PyProof.ReprRoads
import KE.GoesEnum
import HandS.MakeKwOnly
import PyProof.InstStoreFacts
import HandS.EndBits
import HandS.Call
import HandS.List
import HandS.SortInts
import HandS.RaiseMore
import HandS.ExcIs
import KE.KNestM
import HandS.Strs
import HandS.SetFor
import HandS.Conv
import HandS.SortKw
import HandS.GenList
import KE.KSortKey
import PyProof.TupleOfSeq
import HandS.Text
import HandS.FStr
import PyProof.ListStr
import KE.IntTextText
import PyProof.StrLawsRepr
import PyProof.Rows.StrJoinMade
import HandS.Small
import PySem.Challenge.RW_withintwo_k09_texts_of_tables
set_option Elab.async false
set_option linter.all false
set_option maxRecDepth 100000
set_option maxHeartbeats 4000000
namespace DL
open PySem PySem.Spec PyProof.Rows L2

abbrev D := PyData
def kD : Key → D
  | .inl i => .int i
  | .inr x => .str x

mutual
def Rdd (K : PySem.W.Frag) (S : Addr → Prop) (H : Hp) : D → V → Prop
  | .none, v => v = .non
  | .bool b, v => v = .bl b
  | .int i, v => v = .int i
  | .str x, v => v = .str x
  | .tuple ds, v => ∃ a vs, v = .ref a ∧ SqT K H a vs ∧ RdL K S H ds vs
  | .list ds, v => ∃ a vs, v = .ref a ∧ S a ∧ H a = some (.lst vs) ∧ RdL K S H ds vs
  | .dict kvs, v => ∃ a ps, v = .ref a ∧ S a ∧ H a = some (.dK ps) ∧ RdK K S H kvs ps
def RdL (K : PySem.W.Frag) (S : Addr → Prop) (H : Hp) : List D → List V → Prop
  | [], vs => vs = []
  | d :: ds, vs => ∃ v r, vs = v :: r ∧ Rdd K S H d v ∧ RdL K S H ds r
def RdK (K : PySem.W.Frag) (S : Addr → Prop) (H : Hp) : List (D × D) → List (Key × V) → Prop
  | [], ps => ps = []
  | (k, d) :: r, ps => ∃ key v rest, ps = (key, v) :: rest ∧ k = kD key ∧ Rdd K S H d v ∧ RdK K S H r rest
end
section
variable {K : PySem.W.Frag} {S S' : Addr → Prop} {H H' : Hp}
mutual
theorem Rdd.keep (hS : ∀ a, S a → S' a) (hT : ∀ a vs, SqT K H a vs → SqT K H' a vs) (hL : ∀ a o, S a → H a = some o → H' a = some o) :
    ∀ (d : D) (v : V), Rdd K S H d v → Rdd K S' H' d v
  | .none, _, h => h
  | .bool _, _, h => h
  | .int _, _, h => h
  | .str _, _, h => h
  | .tuple ds, _, ⟨a, vs, e, ht, hr⟩ => ⟨a, vs, e, hT _ _ ht, RdL.keep hS hT hL ds vs hr⟩
  | .list ds, _, ⟨a, vs, e, hs, ha, hr⟩ => ⟨a, vs, e, hS _ hs, hL _ _ hs ha, RdL.keep hS hT hL ds vs hr⟩
  | .dict kvs, _, ⟨a, ps, e, hs, ha, hr⟩ => ⟨a, ps, e, hS _ hs, hL _ _ hs ha, RdK.keep hS hT hL kvs ps hr⟩
theorem RdL.keep (hS : ∀ a, S a → S' a) (hT : ∀ a vs, SqT K H a vs → SqT K H' a vs) (hL : ∀ a o, S a → H a = some o → H' a = some o) :
    ∀ (ds : List D) (vs : List V), RdL K S H ds vs → RdL K S' H' ds vs
  | [], _, h => h
  | d :: ds, _, ⟨v, r, e, h1, h2⟩ => ⟨v, r, e, Rdd.keep hS hT hL d v h1, RdL.keep hS hT hL ds r h2⟩
theorem RdK.keep (hS : ∀ a, S a → S' a) (hT : ∀ a vs, SqT K H a vs → SqT K H' a vs) (hL : ∀ a o, S a → H a = some o → H' a = some o) :
    ∀ (ds : List (D × D)) (ps : List (Key × V)), RdK K S H ds ps → RdK K S' H' ds ps
  | [], _, h => h
  | (_, d) :: r, _, ⟨key, v, rest, e, ek, h1, h2⟩ => ⟨key, v, rest, e, ek, Rdd.keep hS hT hL d v h1, RdK.keep hS hT hL r rest h2⟩
end
theorem RdL.len : ∀ {ds : List D} {vs : List V}, RdL K S H ds vs → vs.length = ds.length
  | [], _, h => by rw [show _ = [] from h]; rfl
  | _ :: ds, _, ⟨v, r, e, _, h2⟩ => by rw [e, List.length_cons, List.length_cons, RdL.len (ds := ds) h2]
theorem RdL.get : ∀ {ds : List D} {vs : List V} {i : Nat} {d : D}, RdL K S H ds vs → ds[i]? = some d → ∃ v, vs[i]? = some v ∧ Rdd K S H d v
  | [], _, _, _, _, e => by simp at e
  | d :: ds, _, 0, d', ⟨v, r, e, h1, _⟩, e' => by
    simp at e'; subst e'; exact ⟨v, by rw [e]; rfl, h1⟩
  | _ :: ds, _, i + 1, d', ⟨v, r, e, _, h2⟩, e' => by
    obtain ⟨u, hu, hr⟩ := RdL.get (ds := ds) (i := i) (d := d') h2 (by simpa using e')
    exact ⟨u, by rw [e]; simpa using hu, hr⟩
theorem RdL.getV : ∀ {ds : List D} {vs : List V} {i : Nat} {v : V}, RdL K S H ds vs → vs[i]? = some v → ∃ d, ds[i]? = some d ∧ Rdd K S H d v
  | [], _, _, _, h, e => by rw [show _ = [] from h] at e; simp at e
  | d :: ds, _, 0, v', ⟨v, r, e, h1, _⟩, e' => by
    rw [e] at e'; simp at e'; subst e'; exact ⟨d, rfl, h1⟩
  | _ :: ds, _, i + 1, v', ⟨v, r, e, _, h2⟩, e' => by
    rw [e] at e'
    obtain ⟨u, hu, hr⟩ := RdL.getV (ds := ds) (i := i) (v := v') h2 (by simpa using e')
    exact ⟨u, by simpa using hu, hr⟩
theorem RdL.append : ∀ {ds es : List D} {vs us : List V}, RdL K S H ds vs → RdL K S H es us → RdL K S H (ds ++ es) (vs ++ us)
  | [], _, _, _, h, h' => by rw [show _ = [] from h]; exact h'
  | d :: ds, es, _, us, ⟨v, r, e, h1, h2⟩, h' => ⟨v, r ++ us, by rw [e]; rfl, h1, RdL.append (ds := ds) h2 h'⟩
theorem RdL.take : ∀ {ds : List D} {vs : List V} (n : Nat), RdL K S H ds vs → RdL K S H (ds.take n) (vs.take n)
  | [], _, n, h => by rw [show _ = [] from h]; simp [RdL]
  | d :: ds, _, 0, ⟨v, r, e, h1, h2⟩ => by simp [RdL]
  | d :: ds, _, n + 1, ⟨v, r, e, h1, h2⟩ => ⟨v, r.take n, by rw [e]; rfl, h1, RdL.take (ds := ds) n h2⟩
theorem RdL.drop : ∀ {ds : List D} {vs : List V} (n : Nat), RdL K S H ds vs → RdL K S H (ds.drop n) (vs.drop n)
  | [], _, n, h => by rw [show _ = [] from h]; simp [RdL]
  | d :: ds, _, 0, h => by simpa using h
  | d :: ds, _, n + 1, ⟨v, r, e, h1, h2⟩ => by rw [e]; simpa using RdL.drop (ds := ds) n h2
theorem RdL.rev : ∀ {ds : List D} {vs : List V}, RdL K S H ds vs → RdL K S H ds.reverse vs.reverse
  | [], _, h => by rw [show _ = [] from h]; simp [RdL]
  | d :: ds, _, ⟨v, r, e, h1, h2⟩ => by
    rw [e, List.reverse_cons, List.reverse_cons]
    exact RdL.append (RdL.rev (ds := ds) h2) ⟨v, [], rfl, h1, rfl⟩
theorem RdL.set : ∀ {ds : List D} {vs : List V} {d : D} {v : V} (i : Nat), RdL K S H ds vs → Rdd K S H d v → RdL K S H (ds.set i d) (vs.set i v)
  | [], _, _, _, i, h, _ => by rw [show _ = [] from h]; simp [RdL]
  | _ :: ds, _, d', v', 0, ⟨v, r, e, _, h2⟩, h' => by rw [e]; exact ⟨v', r, rfl, h', h2⟩
  | d :: ds, _, d', v', i + 1, ⟨v, r, e, h1, h2⟩, h' => by rw [e]; exact ⟨v, r.set i v', rfl, h1, RdL.set (ds := ds) i h2 h'⟩
theorem RdL.ints : ∀ (ns : List Int), RdL K S H (ns.map .int) (ns.map V.int)
  | [] => rfl
  | n :: ns => ⟨.int n, ns.map V.int, rfl, rfl, RdL.ints ns⟩
theorem RdL.ints_inv : ∀ {ns : List Int} {vs : List V}, RdL K S H (ns.map .int) vs → vs = ns.map V.int
  | [], _, h => h
  | n :: ns, _, ⟨v, r, e, h1, h2⟩ => by rw [e, show v = V.int n from h1, RdL.ints_inv (ns := ns) h2]; rfl
theorem RdL.replicate {d : D} {v : V} (h : Rdd K S H d v) : ∀ n : Nat, RdL K S H (List.replicate n d) (List.replicate n v)
  | 0 => rfl
  | n + 1 => ⟨v, List.replicate n v, rfl, h, RdL.replicate h n⟩
end

/-! ### the deck, the frames -/
structure Wd where
  kc : Str
  km : Str
  kd : Str
  T : List (Addr × Str)
structure Dq where
  w : Wd
  p : Addr
  l : Addr
def DkOk (q : Dq) (H : Hp) : Prop := ∃ (cells : List Int) (m n : Int),
  H q.p = some (.dK [(.inr q.w.kc, .ref q.l), (.inr q.w.km, .int m), (.inr q.w.kd, .int n)]) ∧ H q.l = some (.lst (cells.map V.int)) ∧ cells.length ≤ 63 ∧ ∃ o φ, H sysModules = some (.frz o (.ext φ))
/-- nothing of note stands there -/
abbrev Nn (H : Hp) (a : Addr) : Prop := ∀ o, H a = some o → ∃ ps, o = .tbl ps
theorem Nn.of {H : Hp} {a : Addr} (n : H a = none) : Nn H a := fun o e => by rw [n] at e; cases e
theorem Nn.no {H : Hp} {a : Addr} {o : HO} (n : Nn H a) (e : H a = some o) (h : ∀ ps, o ≠ .tbl ps) : False := let ⟨ps, z⟩ := n o e; h ps z
structure KpX (q : Dq) (H H' : Hp) : Prop where
  kp : ∀ b o, H b = some o → b ≠ q.p → b ≠ q.l → (∀ ps, o ≠ .tbl ps) → H' b = some o
  th : ∀ b o, H b = some o → (∀ ps, o ≠ .tbl ps) → ∃ o', H' b = some o' ∧ ∀ ps, o' ≠ .tbl ps
theorem KpX.refl (q : Dq) (H : Hp) : KpX q H H := ⟨fun _ _ e _ _ _ => e, fun _ o e h => ⟨o, e, h⟩⟩
theorem KpX.trans {q : Dq} {H H1 H2 : Hp} (a : KpX q H H1) (b : KpX q H1 H2) : KpX q H H2 :=
  ⟨fun c o e h1 h2 h3 => b.kp c o (a.kp c o e h1 h2 h3) h1 h2 h3, fun c o e h => let ⟨o', e', h'⟩ := a.th c o e h; b.th c o' e' h'⟩
theorem KpX.new {q : Dq} {H : Hp} {a : Addr} {o : HO} (n : H a = none) : KpX q H (upd H a o) :=
  ⟨fun b u e _ _ _ => by rw [upd_ne (ne_of_none e n)]; exact e, fun b u e h => ⟨u, by rw [upd_ne (ne_of_none e n)]; exact e, h⟩⟩
theorem KpX.free {q : Dq} {H H' : Hp} (k : KpX q H H') {a : Addr} (n : Nn H' a) : Nn H a := fun o e => Classical.byContradiction fun z => by
  obtain ⟨o', e', h'⟩ := k.th a o e fun ps y => z ⟨ps, y⟩
  exact n.no e' h'
structure Stp (q : Dq) (F F' : Addr → Prop) (H H' : Hp) : Prop where
  kp : KpX q H H'
  up : ∀ a, F a → F' a
  nw : ∀ a, F' a → F a ∨ Nn H a
theorem Stp.refl (q : Dq) (F : Addr → Prop) (H : Hp) : Stp q F F H H := ⟨KpX.refl q H, fun _ h => h, fun _ h => .inl h⟩
theorem Stp.trans {q : Dq} {F F1 F2 : Addr → Prop} {H H1 H2 : Hp} (a : Stp q F F1 H H1) (b : Stp q F1 F2 H1 H2) : Stp q F F2 H H2 :=
  ⟨a.kp.trans b.kp, fun c h => b.up c (a.up c h), fun c h => (b.nw c h).elim (a.nw c) fun n => .inr (a.kp.free n)⟩

/-- what a slot of a def holds, seen from outside the heap -/
inductive Slot where
  | un
  | val (d : D)
  | raw (v : V)
  | deck
  | own (ds : List D)
  | own2 (rows : List (List D))
/-- what a call hands on -/
inductive Arg where
  | dat (d : D)
  | raw (v : V)
  | deck

structure Ct where
  q : Dq
  H0 : Hp
  S0 : Addr → Prop
/-- lists at those places -/
def RowsR (K : PySem.W.Frag) (F : Addr → Prop) (H : Hp) : List Addr → List (List D) → Prop
  | [], rs => rs = []
  | b :: as, rs => ∃ r rest vs, rs = r :: rest ∧ H b = some (.lst vs) ∧ RdL K F H r vs ∧ RowsR K F H as rest
theorem RowsR.keep {K : PySem.W.Frag} {F F' : Addr → Prop} {H H' : Hp} (hL : ∀ r vs, RdL K F H r vs → RdL K F' H' r vs) : ∀ (as : List Addr) (rs : List (List D)), (∀ b ∈ as, ∀ vs, H b = some (.lst vs) → H' b = some (.lst vs)) → RowsR K F H as rs → RowsR K F' H' as rs
  | [], _, _, h => h
  | b :: as, rs, hk, ⟨r, rest, vs, e, h1, h2, h3⟩ => ⟨r, rest, vs, e, hk b List.mem_cons_self vs h1, hL _ _ h2, RowsR.keep hL as rest (fun c hc => hk c (List.mem_cons_of_mem _ hc)) h3⟩
def SlotOk (K : PySem.W.Frag) (p : Addr) (F : Addr → Prop) (H : Hp) (fp : List Addr) : Slot → Option (Option V) → Prop
  | .un, _ => True
  | .val d, o => ∃ v, o = some (some v) ∧ Rdd K F H d v
  | .raw v, o => o = some (some v)
  | .deck, o => o = some (some (.ref p))
  | .own ds, o => ∃ a vs, o = some (some (.ref a)) ∧ a ∈ fp ∧ H a = some (.lst vs) ∧ RdL K F H ds vs
  | .own2 rows, o => ∃ a as, o = some (some (.ref a)) ∧ a ∈ fp ∧ (∀ b ∈ as, b ∈ fp) ∧ (a :: as).Nodup ∧ H a = some (.lst (as.map V.ref)) ∧ RowsR K F H as rows
abbrev Fps := Nat → List Addr
abbrev FzOk (q : Dq) (F : Addr → Prop) (H : Hp) : Prop := ∀ a, F a → a ≠ q.p ∧ a ≠ q.l ∧ H a ≠ none ∧ ∀ ps, H a ≠ some (.tbl ps)
structure Rel (K : PySem.W.Frag) (C : Ct) (F : Addr → Prop) (O : Fps) (ρ : List Slot) (σ : L2.St) (H : Hp) : Prop where
  ln : ρ.length ≤ σ.length
  dk : DkOk C.q H
  tb : LamX.Tabs C.q.w.T H
  fz : FzOk C.q F H
  kp : KpX C.q C.H0 H
  up : ∀ a, C.S0 a → F a
  nw : ∀ a, F a → C.S0 a ∨ Nn C.H0 a
  sl : ∀ i s, ρ[i]? = some s → SlotOk K C.q.p F H (O i) s (σ[i]?)
  oo : ∀ i, ∀ a ∈ O i, ¬ F a ∧ a ≠ C.q.p ∧ a ≠ C.q.l ∧ Nn C.H0 a ∧ H a ≠ none ∧ ∀ ps, H a ≠ some (.tbl ps)
  dj : ∀ i j, i ≠ j → ∀ a ∈ O i, a ∉ O j
section
variable {K : PySem.W.Frag} {q : Dq} {C : Ct} {F F' : Addr → Prop} {O : Fps} {ρ : List Slot} {σ : L2.St} {H H' : Hp}
theorem SqT.kpx (hd : DkOk q H) (k : KpX q H H') {a : Addr} {vs : List V} (h : SqT K H a vs) : SqT K H' a vs := by
  obtain ⟨cells, m, n, h1, h2, _⟩ := hd
  have key : ∀ o, H a = some o → (∀ kvs, o ≠ .dK kvs) → (∀ xs, o ≠ .lst xs) → (∀ ps, o ≠ .tbl ps) → H' a = some o := fun o e n1 n2 n3 =>
    k.kp a o e (fun z => by rw [z, h1] at e; exact n1 _ (Option.some.inj e).symm) (fun z => by rw [z, h2] at e; exact n2 _ (Option.some.inj e).symm) n3
  rcases h with (h | ⟨o, h⟩) | h
  · exact .inl (.inl (key _ h (fun _ z => nomatch z) (fun _ z => nomatch z) (fun _ z => nomatch z)))
  · exact .inl (.inr ⟨o, key _ h (fun _ z => nomatch z) (fun _ z => nomatch z) (fun _ z => nomatch z)⟩)
  · exact .inr h
theorem Rdd.stp (hd : DkOk q H) (hf : ∀ a, F a → a ≠ q.p ∧ a ≠ q.l ∧ H a ≠ none ∧ ∀ ps, H a ≠ some (.tbl ps)) (s : Stp q F F' H H') {d : D} {v : V} (h : Rdd K F H d v) : Rdd K F' H' d v :=
  Rdd.keep (fun a => s.up a) (fun a vs => SqT.kpx hd s.kp) (fun a o ha e => s.kp.kp a o e (hf a ha).1 (hf a ha).2.1 fun ps z => (hf a ha).2.2.2 ps (by rw [e, z])) d v h
theorem RdL.stp (hd : DkOk q H) (hf : ∀ a, F a → a ≠ q.p ∧ a ≠ q.l ∧ H a ≠ none ∧ ∀ ps, H a ≠ some (.tbl ps)) (s : Stp q F F' H H') {ds : List D} {vs : List V} (h : RdL K F H ds vs) : RdL K F' H' ds vs :=
  RdL.keep (fun a => s.up a) (fun a vs => SqT.kpx hd s.kp) (fun a o ha e => s.kp.kp a o e (hf a ha).1 (hf a ha).2.1 fun ps z => (hf a ha).2.2.2 ps (by rw [e, z])) ds vs h
theorem Rdd.stpR (R : Rel K C F O ρ σ H) (s : Stp C.q F F' H H') {d : D} {v : V} (h : Rdd K F H d v) : Rdd K F' H' d v := Rdd.stp R.dk R.fz s h
theorem RdL.stpR (R : Rel K C F O ρ σ H) (s : Stp C.q F F' H H') {d : List D} {v : List V} (h : RdL K F H d v) : RdL K F' H' d v := RdL.stp R.dk R.fz s h
/-- a slot stays -/
theorem SlotOk.stp (R : Rel K C F O ρ σ H) (s : Stp C.q F F' H H') {i : Nat} {sl : Slot} {o : Option (Option V)} (h : SlotOk K C.q.p F H (O i) sl o) : SlotOk K C.q.p F' H' (O i) sl o := by
  cases sl with
  | un => exact True.intro
  | val d => obtain ⟨v, e, r⟩ := h; exact ⟨v, e, r.stpR R s⟩
  | raw v => exact h
  | deck => exact h
  | own ds =>
    obtain ⟨a, vs, e, ha, hl, r⟩ := h
    obtain ⟨_, h1, h2, _, _, h3⟩ := R.oo i a ha
    exact ⟨a, vs, e, ha, s.kp.kp a _ hl h1 h2 (fun ps z => nomatch z), r.stpR R s⟩
  | own2 rows =>
    obtain ⟨a, as, e, ha, hb, nd, hl, r⟩ := h
    obtain ⟨_, h1, h2, _, _, _⟩ := R.oo i a ha
    exact ⟨a, as, e, ha, hb, nd, s.kp.kp a _ hl h1 h2 (fun ps z => nomatch z), RowsR.keep (fun _ _ q => q.stpR R s) as rows (fun b hm vs q => s.kp.kp b _ q (R.oo i b (hb b hm)).2.1 (R.oo i b (hb b hm)).2.2.1 (fun ps z => nomatch z)) r⟩
/-- the heap has grown by a new object that is no table, nothing else -/
theorem th_of {a : Addr} (k : KpX q H H') (h3 : H a ≠ none) (h4 : ∀ ps, H a ≠ some (.tbl ps)) : H' a ≠ none ∧ ∀ ps, H' a ≠ some (.tbl ps) := by
  cases e : H a with
  | none => exact absurd e h3
  | some o =>
    obtain ⟨o', e', h'⟩ := k.th a o e fun ps z => h4 ps (by rw [e, z])
    exact ⟨by rw [e']; simp, fun ps z => by rw [e'] at z; exact h' ps (Option.some.inj z)⟩
theorem Nn.nn {a : Addr} (n : Nn H a) (h3 : H a ≠ none) (h4 : ∀ ps, H a ≠ some (.tbl ps)) : False := by
  cases e : H a with
  | none => exact h3 e
  | some o => exact n.no e fun ps z => h4 ps (by rw [e, z])
/-- the heap has grown by a new object that is no table, nothing else -/
theorem Rel.step (R : Rel K C F O ρ σ H) (s : Stp C.q F F' H H') (hd : DkOk C.q H') (ht : LamX.Tabs C.q.w.T H')
    (hf : ∀ a, F' a → ¬ F a → a ≠ C.q.p ∧ a ≠ C.q.l ∧ H' a ≠ none ∧ ∀ ps, H' a ≠ some (.tbl ps)) : Rel K C F' O ρ σ H' where
  ln := R.ln
  dk := hd
  tb := ht
  fz := fun a ha => by
    by_cases h : F a
    · obtain ⟨h1, h2, h3, h4⟩ := R.fz a h
      exact ⟨h1, h2, th_of s.kp h3 h4⟩
    · exact hf a ha h
  kp := R.kp.trans s.kp
  up := fun a h => s.up a (R.up a h)
  nw := fun a h => (s.nw a h).elim (R.nw a) fun n => .inr (R.kp.free n)
  sl := fun i sl e => (R.sl i sl e).stp R s
  oo := fun i a ha => by
    obtain ⟨h0, h1, h2, h3, h4, h5⟩ := R.oo i a ha
    exact ⟨fun z => (s.nw a z).elim h0 fun n => n.nn h4 h5, h1, h2, h3, th_of s.kp h4 h5⟩
  dj := R.dj
theorem DkOk.new (hd : DkOk q H) {a : Addr} {o : HO} (n : H a = none) : DkOk q (upd H a o) := by
  obtain ⟨cells, m, k, h1, h2, h3, ob, φ, h4⟩ := hd
  exact ⟨cells, m, k, by rw [upd_ne (ne_of_none h1 n)]; exact h1, by rw [upd_ne (ne_of_none h2 n)]; exact h2, h3, ob, φ, by rw [upd_ne (ne_of_none h4 n)]; exact h4⟩
theorem Tabs.new {T : List (Addr × Str)} (ht : LamX.Tabs T H) {a : Addr} {o : HO} (n : H a = none) : LamX.Tabs T (upd H a o) :=
  ht.ext fun b u e => by rw [upd_ne (ne_of_none e n)]; exact e
theorem Stp.new (n : H a = none) : Stp q F F H (upd H a o) := ⟨KpX.new n, fun _ h => h, fun _ h => .inl h⟩
/-- a new object is laid, not frozen -/
theorem Rel.new (R : Rel K C F O ρ σ H) {a : Addr} {o : HO} (n : H a = none) : Rel K C F O ρ σ (upd H a o) :=
  R.step (Stp.new n) (R.dk.new n) (Tabs.new R.tb n) fun b h h' => absurd h h'
theorem Rel.np (R : Rel K C F O ρ σ H) {a : Addr} (n : Nn H a) : a ≠ C.q.p ∧ a ≠ C.q.l ∧ Nn C.H0 a ∧ ¬ F a ∧ ∀ i, a ∉ O i := by
  obtain ⟨cells, m, k, h1, h2, _⟩ := R.dk
  exact ⟨fun z => n.no (show H a = some (.dK _) by rw [z]; exact h1) (fun ps z => nomatch z), fun z => n.no (show H a = some (.lst _) by rw [z]; exact h2) (fun ps z => nomatch z), R.kp.free n, fun z => n.nn (R.fz a z).2.2.1 (R.fz a z).2.2.2, fun i z => n.nn (R.oo i a z).2.2.2.2.1 (R.oo i a z).2.2.2.2.2⟩
/-- an own or loose object is frozen -/
theorem Rel.freeze (R : Rel K C F O ρ σ H) {a : Addr} (h1 : a ≠ C.q.p) (h2 : a ≠ C.q.l) (h3 : Nn C.H0 a) (h4 : H a ≠ none) (h5 : ∀ ps, H a ≠ some (.tbl ps)) (h6 : ∀ i, a ∉ O i) :
    Rel K C (fun b => F b ∨ b = a) O ρ σ H := by
  have mono : ∀ {d : D} {v : V}, Rdd K F H d v → Rdd K (fun b => F b ∨ b = a) H d v := fun {d v} h => Rdd.keep (fun b => Or.inl) (fun _ _ z => z) (fun _ _ _ z => z) d v h
  have monoL : ∀ {d : List D} {v : List V}, RdL K F H d v → RdL K (fun b => F b ∨ b = a) H d v := fun {d v} h => RdL.keep (fun b => Or.inl) (fun _ _ z => z) (fun _ _ _ z => z) d v h
  refine ⟨R.ln, R.dk, R.tb, fun b hb => ?_, R.kp, fun b hb => .inl (R.up b hb), fun b hb => ?_, fun i s e => ?_, fun i b hb => ?_, R.dj⟩
  · rcases hb with hb | rfl
    · exact R.fz b hb
    · exact ⟨h1, h2, h4, h5⟩
  · rcases hb with hb | rfl
    · exact R.nw b hb
    · exact .inr h3
  · have q := R.sl i s e
    cases s with
    | un => exact True.intro
    | val d => obtain ⟨v, e, r⟩ := q; exact ⟨v, e, mono r⟩
    | raw v => exact q
    | deck => exact q
    | own ds => obtain ⟨b, vs, e, hb, hl, r⟩ := q; exact ⟨b, vs, e, hb, hl, monoL r⟩
    | own2 rows => obtain ⟨b, as, e, hb, hc, nd, hl, r⟩ := q; exact ⟨b, as, e, hb, hc, nd, hl, RowsR.keep (fun _ _ z => monoL z) as rows (fun _ _ _ z => z) r⟩
  · obtain ⟨g0, g⟩ := R.oo i b hb
    exact ⟨fun z => z.elim g0 fun e => h6 i (e ▸ hb), g⟩
theorem Stp.freeze {a : Addr} (n : Nn H a) (s : Stp q F F' H H') : Stp q F (fun b => F' b ∨ b = a) H H' :=
  ⟨s.kp, fun b h => .inl (s.up b h), fun b h => h.elim (s.nw b) fun e => .inr (e ▸ n)⟩
end

/-! ### results: frozen, an operand, fresh -/
abbrev RR := (Addr → Prop) → Fps → Hp → Hp → D → V → Prop
def rE (K : PySem.W.Frag) : RR := fun F _ _ H d v => Rdd K F H d v
def rF (K : PySem.W.Frag) : RR := fun F O H₀ H d v => match d with
  | .list ds => ∃ a vs, v = .ref a ∧ Nn H₀ a ∧ ¬ F a ∧ (∀ i, a ∉ O i) ∧ H a = some (.lst vs) ∧ RdL K F H ds vs
  | _ => False
def rO (K : PySem.W.Frag) : RR := fun F O _ H d v => match d with
  | .list ds => ∃ a vs, v = .ref a ∧ (F a ∨ ∃ i, a ∈ O i) ∧ H a = some (.lst vs) ∧ RdL K F H ds vs
  | d => Rdd K F H d v
theorem rE_O {K : PySem.W.Frag} {F : Addr → Prop} {O : Fps} {H₀ H : Hp} {d : D} {v : V} (h : rE K F O H₀ H d v) : rO K F O H₀ H d v := by
  cases d with
  | list ds => obtain ⟨a, vs, e, hs, ha, hr⟩ := h; exact ⟨a, vs, e, .inl hs, ha, hr⟩
  | _ => exact h

abbrev TED := List Slot → (D → Prop) → Prop
def MonoE (t : TED) : Prop := ∀ ρ (P P' : D → Prop), (∀ d, P d → P' d) → t ρ P → t ρ P'
def lift (R : RR) (K : PySem.W.Frag) (C : Ct) (t : TED) : TE := fun σ H Q => ∃ F O ρ, Rel K C F O ρ σ H ∧
  t ρ fun d => ∀ v H' F', Stp C.q F F' H H' → Rel K C F' O ρ σ H' → R F' O H H' d v → Q v H'
structure PV (R : PySem.W.Frag → RR) (X : Cx) (C : Ct) (e : Expr) (t : TED) : Prop where
  mono : MonoE t
  run : PE X e (lift (R X.K) X.K C t)
theorem pe_imp {X : Cx} {e : Expr} {t t' : TE} (h : PE X e t) (i : ∀ σ H Q, t' σ H Q → t σ H Q) : PE X e t' := ⟨fun pins s σ H Q I q => h.run pins s σ H Q I (i σ H Q q)⟩
abbrev PD := PV rE
abbrev PO := PV rO
abbrev PF := PV rF
section
variable {X : Cx} {C : Ct} {e : Expr} {t : TED}
theorem PO.of (h : PD X C e t) : PO X C e t := ⟨h.mono, pe_imp h.run fun σ H Q ⟨F, O, ρ, R, q⟩ => ⟨F, O, ρ, R, h.mono _ _ _ (fun d k v H' F' s R' r => k v H' F' s R' (rE_O r)) q⟩⟩
/-- a fresh list is frozen -/
theorem PD.ofF (h : PF X C e t) : PD X C e t := ⟨h.mono, pe_imp h.run fun σ H Q ⟨F, O, ρ, R, q⟩ => ⟨F, O, ρ, R, h.mono _ _ _ (fun d k v H' F' s R' r => by
  cases d with
  | list ds =>
    obtain ⟨a, vs, e, hA, h1, h2, h3, h4⟩ := r
    obtain ⟨n1, n2, n3, _, _⟩ := R.np hA
    refine k v H' _ (Stp.freeze hA s) (R'.freeze n1 n2 n3 (by rw [h3]; simp) (by rw [h3]; intro ps z; cases z) h2) ⟨a, vs, e, .inr rfl, h3, ?_⟩
    exact RdL.keep (fun b => Or.inl) (fun _ _ z => z) (fun _ _ _ z => z) _ _ h4
  | _ => exact r.elim) q⟩⟩
end
/-! ### calls of defs -/
structure FnR (G : Around → Prop) (P : Program) (w : World) (K : PySem.W.Frag) (mg : Str → Option Value) (base : Heap) (CX : CXT) (k : Nat) (f : Addr) (fd : FuncData) (ps : List Str) (sp : Sp) : Prop where
  len : ∀ vs H Q E, sp vs H Q E → vs.length = ps.length
  run : ∀ (A : Around) (outer : List Env) (s : Shared) (H : Hp) (args : Args) (us : List Value) (vs : List V) (Q : VK) (E : XK), Room k A → G A → Env0 P w K mg base A outer s H → BindsTo s fd args (ps.zip us) → Vals vs us → sp vs H Q E →
    codeAny (model P w) A (.call (.ref f) args) (CR CX outer P w H s Q E) s
theorem FnR.of {G : Around → Prop} {P : Program} {w : World} {K : PySem.W.Frag} {mg : Str → Option Value} {base : Heap} {CX : CXT} {k : Nat} {f : Addr} {fd : FuncData} {ps : List Str} {sp : Sp} (F : FnOk P w K mg base CX k f fd ps sp) : FnR G P w K mg base CX k f fd ps sp :=
  ⟨F.len, fun A outer s H args us vs Q E hr _ => F.run A outer s H args us vs Q E hr⟩
section
variable {G : Around → Prop} {X : Cx} {CX : CXT} {k : Nat} {f : Addr} {fd : FuncData} {ps : List Str} {sp : Sp} {ds : List Value} {dvs : List V} {E : XK} {x : Str} {p pos : Pos} {e : Expr} {es : List Expr} {t : TA}
theorem fin_call {pins : List (Addr × Obj)} {σ : L2.St} {H : Hp} {s : Shared} {Q : VK} {r : Result} {s' : Shared} (hx : Passes CX X E) (I : Inv X pins σ H s) (hq : CR CX X.stack X.prog X.w H s Q E r s') :
    match r with | .ok (.ret u) => EP X pins σ Q u s' | .ok _ => False | .error e => X.xe e s' := by
  cases r with
  | error e => exact hx pins σ H s e s' I hq
  | ok fl =>
    cases fl with
    | ret u => exact I.after hq
    | next => exact False.elim hq
    | brk => exact False.elim hq
    | cont => exact False.elim hq
theorem run_fnR {pins : List (Addr × Obj)} {σ : L2.St} {H : Hp} {s : Shared} {Q : VK} {us : List Value} {vs : List V} (F : FnR G X.prog X.w X.K X.mg X.base CX k f fd ps sp) (hr : Room k X.A) (hG : G X.A) (hb : Binds X.K fd ps ds) (hd : Vals dvs ds) (hx : Passes CX X E)
    (I : Inv X pins σ H s) (r : Vals vs us) (h : sp (vs ++ dvs) H Q E) : wpAny (model X.prog X.w) X.A (call (.ref f) us) (EP X pins σ Q) X.xe s := by
  have r2 : Vals (vs ++ dvs) (us ++ ds) := r.append hd
  have hl : (us ++ ds).length = ps.length := r2.length.symm.trans (F.len _ _ _ _ h)
  refine wpAny_call (codeAny_mono (F.run X.A X.stack s H ⟨us, []⟩ _ _ Q E hr hG I.env0 (hb s us I.kIn hl) r2 h) fun r s' hq => ?_)
  have z := fin_call hx I hq
  cases r with
  | error e => exact z
  | ok fl => cases fl <;> first | exact z | exact z.elim
theorem pe_callR (F : FnR G X.prog X.w X.K X.mg X.base CX k f fd ps sp) (hr : Room k X.A) (hG : G X.A) (hg : Gl X x) (hm : X.mg x = some (.ref f)) (hk : PySem.W.keepIn X.K (.ref f) = true) (hb : Binds X.K fd ps ds) (hd : Vals dvs ds) (hx : Passes CX X E)
    (ha : PA X (e :: es) t) (hdb : (x == ("__debug__" : Str)) = false := by decide) (he : starEach (e :: es) X.env = (false, eval e X.env) :: starEach es X.env := by rfl) (hpl : (backTo pos (starEach es X.env)).any (·.1) = false := by rfl) :
    PE X (.Call (.Name x p) (e :: es) [] pos) (tCall sp dvs E t) :=
  ⟨fun pins s σ H Q I h => wpAny_Call_Name_kw (ld_glob I hg hm (PySem.W.callWith_K (h₀ := X.base) I.ok.mod.kin hk (thn (ha.run pos pins s σ H _ I h) fun us s1 ⟨vs, H1, I1, r, q⟩ => ⟨I1.kIn, run_fnR F hr hG hb hd hx I1 r q⟩) he hpl) hdb)⟩
end

/-- a def's promise over data: what it hands back, what it raises -/
abbrev XP := Addr → Str → D → Prop
structure FD where
  run : List Arg → (D → Prop) → XP → Prop
  mono : ∀ as P P' Z Z', (∀ d, P d → P' d) → (∀ c n d, Z c n d → Z' c n d) → run as P Z → run as P' Z'
def ArgR (K : PySem.W.Frag) (q : Dq) (F : Addr → Prop) (H : Hp) : Arg → V → Prop
  | .dat d, v => Rdd K F H d v
  | .raw u, v => v = u
  | .deck, v => v = .ref q.p
def ArgsR (K : PySem.W.Frag) (q : Dq) (F : Addr → Prop) (H : Hp) : List Arg → List V → Prop
  | [], vs => vs = []
  | a :: as, vs => ∃ v r, vs = v :: r ∧ ArgR K q F H a v ∧ ArgsR K q F H as r
def spD (K : PySem.W.Frag) (w : Wd) (Fd : FD) : Sp := fun vs H Q E => ∃ (q : Dq) (S : Addr → Prop) (as : List Arg), q.w = w ∧ DkOk q H ∧ LamX.Tabs w.T H ∧ FzOk q S H ∧ ArgsR K q S H as vs ∧
  Fd.run as (fun d => ∀ v H' S', Stp q S S' H H' → DkOk q H' → LamX.Tabs w.T H' → FzOk q S' H' → Rdd K S' H' d v → Q v H')
    (fun c nm d => ∀ dx v H' S', Stp q S S' H H' → DkOk q H' → LamX.Tabs w.T H' → FzOk q S' H' → H' dx = some (.xd [(nm, v)]) → Rdd K S' H' d v → E (.ref c) (some dx) H')
/-- what is wished of exceptions is met -/
structure XO (X : Cx) (C : Ct) (px : XP) (CX : CXT) (E : XK) : Prop where
  pass : Passes CX X E
  hpx : ∀ c nm d, px c nm d → ∀ dx v F O ρ σ H, Rel X.K C F O ρ σ H → H dx = some (.xd [(nm, v)]) → Rdd X.K F H d v → E (.ref c) (some dx) H

abbrev TAD := List Slot → (List Arg → Prop) → Prop
def liftA (K : PySem.W.Frag) (C : Ct) (t : TAD) : TA := fun σ H Q => ∃ F O ρ, Rel K C F O ρ σ H ∧ t ρ fun as => ∀ vs H' F', Stp C.q F F' H H' → Rel K C F' O ρ σ H' → ArgsR K C.q F' H' as vs → Q vs H'
structure DA (X : Cx) (C : Ct) (es : List Expr) (t : TAD) : Prop where
  mono : ∀ ρ (P P' : List Arg → Prop), (∀ d, P d → P' d) → t ρ P → t ρ P'
  run : PA X es (liftA X.K C t)
theorem pa_imp {X : Cx} {es : List Expr} {t t' : TA} (h : PA X es t) (i : ∀ σ H Q, t' σ H Q → t σ H Q) : PA X es t' := ⟨fun pos pins s σ H Q I q => h.run pos pins s σ H Q I (i σ H Q q)⟩
def aNil : TAD := fun _ P => P []
def aCons (te : TED) (ta : TAD) : TAD := fun ρ P => te ρ fun d => ta ρ fun as => P (.dat d :: as)
def slotArg : Slot → Option Arg
  | .raw v => some (.raw v)
  | .deck => some .deck
  | _ => none
def aSlot (i : Nat) (ta : TAD) : TAD := fun ρ P => match (ρ[i]?).bind slotArg with
  | some a => ta ρ fun as => P (a :: as)
  | none => False
section
variable {X : Cx} {C : Ct} {e : Expr} {es : List Expr} {te : TED} {ta : TAD}
theorem da_nil : DA X C [] aNil := ⟨fun _ _ _ k h => k _ h, pa_imp pa_nil fun σ H Q ⟨F, O, ρ, R, q⟩ => q [] H F (Stp.refl _ _ _) R rfl⟩
theorem da_cons (h : PD X C e te) (ha : DA X C es ta) (hs : starEach (e :: es) X.env = (false, eval e X.env) :: starEach es X.env := by rfl) : DA X C (e :: es) (aCons te ta) :=
  ⟨fun ρ P P' k => h.mono _ _ _ fun d => ha.mono _ _ _ fun as => k _, pa_imp (pa_cons h.run ha.run hs) fun σ H Q ⟨F, O, ρ, R, q⟩ =>
    ⟨F, O, ρ, R, h.mono _ _ _ (fun d k v H1 F1 s1 R1 r1 => ⟨F1, O, ρ, R1, ha.mono _ _ _ (fun as k2 vs H2 F2 s2 R2 r2 => k2 _ H2 F2 (s1.trans s2) R2 ⟨v, vs, rfl, Rdd.stpR R1 s2 r1, r2⟩) k⟩) q⟩⟩
theorem da_slot {i : Nat} {x : Str} {pos : Pos} (ha : DA X C es ta) (hN : X.N[i]? = some x := by rfl) (hv : Vis X.env.scope x := by first | exact Or.inl rfl | exact Or.inr (Or.inl rfl) | exact Or.inr (Or.inr rfl)) (hd : (x == ("__debug__" : Str)) = false := by decide)
    (hcd : (x == ("__classdict__" : Str)) = false := by decide) (hs : starEach (.Name x pos :: es) X.env = (false, eval (.Name x pos) X.env) :: starEach es X.env := by rfl) : DA X C (.Name x pos :: es) (aSlot i ta) := by
  refine ⟨fun ρ P P' k h => ?_, pa_imp (pa_cons (pe_var hN hv hd hcd) ha.run hs) fun σ H Q ⟨F, O, ρ, R, q⟩ => ?_⟩
  · unfold aSlot at h ⊢
    split at h
    · exact ha.mono _ _ _ (fun as => k _) h
    · exact h
  · unfold aSlot at q
    split at q
    · rename_i a ea
      cases es : ρ[i]? with
      | none => rw [es] at ea; cases ea
      | some s =>
        rw [es] at ea
        have z := R.sl i s es
        cases s with
        | raw v =>
          cases ea
          exact ⟨v, z, F, O, ρ, R, ha.mono _ _ _ (fun as k2 vs H2 F2 s2 R2 r2 => k2 _ H2 F2 s2 R2 ⟨v, vs, rfl, rfl, r2⟩) q⟩
        | deck =>
          cases ea
          exact ⟨.ref C.q.p, z, F, O, ρ, R, ha.mono _ _ _ (fun as k2 vs H2 F2 s2 R2 r2 => k2 _ H2 F2 s2 R2 ⟨_, vs, rfl, rfl, r2⟩) q⟩
        | _ => cases ea
    · exact q.elim
end
def tCallD (Fd : FD) (px : XP) (t : TAD) : TED := fun ρ P => t ρ fun as => Fd.run as P px
section
variable {G : Around → Prop} {X : Cx} {C : Ct} {CX : CXT} {k : Nat} {f : Addr} {fd : FuncData} {ps : List Str} {Fd : FD} {E : XK} {x : Str} {p pos : Pos} {e : Expr} {es : List Expr} {t : TAD}
theorem spD_of {F : Addr → Prop} {O : Fps} {ρ : List Slot} {σ : L2.St} {H : Hp} {as : List Arg} {vs : List V} {P : D → Prop} {Q : VK} {px : XP} (hx : XO X C px CX E) (R : Rel X.K C F O ρ σ H) (ra : ArgsR X.K C.q F H as vs) (h : Fd.run as P px)
    (k : ∀ d, P d → ∀ v H' F', Stp C.q F F' H H' → Rel X.K C F' O ρ σ H' → Rdd X.K F' H' d v → Q v H') : spD X.K C.q.w Fd vs H Q E := by
  refine ⟨C.q, F, as, rfl, R.dk, R.tb, R.fz, ra, Fd.mono _ _ _ _ _ (fun d hp v H' S' s hd ht hf r => k d hp v H' S' s (R.step s hd ht fun a h1 _ => hf a h1) r) (fun c nm d hp dx v H' S' s hd ht hf e r => ?_) h⟩
  exact hx.hpx c nm d hp dx v S' O ρ σ H' (R.step s hd ht fun a h1 _ => hf a h1) e r
theorem pv_call {px : XP} (F : FnR G X.prog X.w X.K X.mg X.base CX k f fd ps (spD X.K C.q.w Fd)) (hr : Room k X.A) (hG : G X.A) (hg : Gl X x) (hm : X.mg x = some (.ref f)) (hk : PySem.W.keepIn X.K (.ref f) = true) (hb : Binds X.K fd ps []) (hx : XO X C px CX E)
    (ha : DA X C (e :: es) t) (hdb : (x == ("__debug__" : Str)) = false := by decide) (he : starEach (e :: es) X.env = (false, eval e X.env) :: starEach es X.env := by rfl) (hpl : (backTo pos (starEach es X.env)).any (·.1) = false := by rfl) :
    PD X C (.Call (.Name x p) (e :: es) [] pos) (tCallD Fd px t) :=
  ⟨fun ρ P P' k => ha.mono _ _ _ fun as => Fd.mono _ _ _ _ _ k fun _ _ _ z => z, pe_imp (pe_callR F hr hG hg hm hk hb .nil hx.pass ha.run hdb he hpl) fun σ H Q ⟨F, O, ρ, R, q⟩ =>
    ⟨F, O, ρ, R, ha.mono _ _ _ (fun as k2 vs H1 F1 s1 R1 ra => by
      show spD X.K C.q.w Fd (vs ++ []) H1 Q E
      rw [List.append_nil]
      exact spD_of hx R1 ra k2 fun d kd v H2 F2 s2 R2 r2 => kd v H2 F2 (s1.trans s2) R2 r2) q⟩⟩
end
end DL

namespace DL
open PySem PySem.Spec PyProof.Rows L2

/-! ### tests -/
abbrev TTD := List Slot → (Bool → Prop) → Prop
def liftT (K : PySem.W.Frag) (C : Ct) (t : TTD) : TT := fun σ H Q => ∃ F O ρ, Rel K C F O ρ σ H ∧ t ρ fun b => ∀ H' F', Stp C.q F F' H H' → Rel K C F' O ρ σ H' → Q b H'
def MonoT (t : TTD) : Prop := ∀ ρ (P P' : Bool → Prop), (∀ b, P b → P' b) → t ρ P → t ρ P'
structure DT (X : Cx) (C : Ct) (e : Expr) (t : TTD) : Prop where
  mono : MonoT t
  run : PT X e (liftT X.K C t)
structure DW (X : Cx) (C : Ct) (e : Expr) (t : TTD) : Prop where
  mono : MonoT t
  run : PW X e (liftT X.K C t)
theorem pt_imp {X : Cx} {e : Expr} {t t' : TT} (h : PT X e t) (i : ∀ σ H Q, t' σ H Q → t σ H Q) : PT X e t' := ⟨fun pins s σ H Q I q => h.run pins s σ H Q I (i σ H Q q)⟩
theorem pw_imp {X : Cx} {e : Expr} {t t' : TT} (h : PW X e t) (i : ∀ σ H Q, t' σ H Q → t σ H Q) : PW X e t' := ⟨fun wh pins s σ H Q I q => h.run wh pins s σ H Q I (i σ H Q q)⟩
def isB : D → (Bool → Prop) → Prop
  | .bool b, P => P b
  | _, _ => False
def tTestD (t : TED) : TTD := fun ρ P => t ρ fun d => isB d P
section
variable {X : Cx} {C : Ct} {a b c e : Expr} {rest : List Expr} {pos : Pos} {te ta tb : TED} {t u : TTD}
theorem mono_isB {d : D} {P P' : Bool → Prop} (k : ∀ b, P b → P' b) (h : isB d P) : isB d P' := by
  cases d <;> first | exact k _ h | exact h.elim
theorem rdd_isB {K : PySem.W.Frag} {F : Addr → Prop} {H : Hp} {d : D} {v : V} {P : Bool → Prop} (r : Rdd K F H d v) (h : isB d P) : ∃ b, v = .bl b ∧ P b := by
  cases d <;> first | exact ⟨_, r, h⟩ | exact h.elim
/-- an expression of a bool as a test -/
theorem dt_val (h : PD X C e te) (he : ∀ whole, isTrue e X.env whole = (do let v ← whole; standAt e.pos; holding [v] (truthy v)) := by intro _; rfl) : DT X C e (tTestD te) :=
  ⟨fun ρ P P' k => h.mono _ _ _ fun d => mono_isB k, pt_imp (pt_val h.run he) fun σ H Q ⟨F, O, ρ, R, q⟩ => ⟨F, O, ρ, R, h.mono _ _ _ (fun d k v H' F' s R' r => by
    obtain ⟨b, e, hb⟩ := rdd_isB r k
    exact ⟨b, e, hb H' F' s R'⟩) q⟩⟩
/-- a comparison as a test -/
theorem dt_cmp {ops : List CmpOp} {bs : List Expr} (h : PD X C (.Compare a ops bs pos) te) (hp : ∀ {t : TE}, PE X (.Compare a ops bs pos) t → PT X (.Compare a ops bs pos) (tTest t)) : DT X C (.Compare a ops bs pos) (tTestD te) :=
  ⟨fun ρ P P' k => h.mono _ _ _ fun d => mono_isB k, pt_imp (hp h.run) fun σ H Q ⟨F, O, ρ, R, q⟩ => ⟨F, O, ρ, R, h.mono _ _ _ (fun d k v H' F' s R' r => by
    obtain ⟨b, e, hb⟩ := rdd_isB r k
    exact ⟨b, e, hb H' F' s R'⟩) q⟩⟩
def tNotD (t : TTD) : TTD := fun ρ P => t ρ fun b => P (!b)
theorem dt_not (h : DT X C a t) : DT X C (.UnaryOp .Not a pos) (tNotD t) :=
  ⟨fun ρ P P' k => h.mono _ _ _ fun b => k _, pt_imp (pt_not h.run) fun σ H Q q => q⟩
def tAndD (t u : TTD) : TTD := fun ρ P => t ρ fun b => if b = true then u ρ P else P false
def tOrD (t u : TTD) : TTD := fun ρ P => t ρ fun b => if b = true then P true else u ρ P
theorem dw_and1 (h : DT X C a t) : DW X C (.BoolOp .And [a] pos) t := ⟨h.mono, pw_and1 h.run⟩
theorem dw_or1 (h : DT X C a t) : DW X C (.BoolOp .Or [a] pos) t := ⟨h.mono, pw_or1 h.run⟩
theorem mono_ite {c : Bool} {A A' B B' : Prop} (h : if c = true then A else B) (ha : A → A') (hb : B → B') : if c = true then A' else B' := by
  cases c with
  | true => exact ha h
  | false => exact hb h
theorem dw_and (ha : DT X C a t) (hb : DW X C (.BoolOp .And (b :: rest) pos) u) : DW X C (.BoolOp .And (a :: b :: rest) pos) (tAndD t u) :=
  ⟨fun ρ P P' k => ha.mono _ _ _ fun c h => mono_ite h (hb.mono _ _ _ k) (k _), pw_imp (pw_and ha.run hb.run) fun σ H Q ⟨F, O, ρ, R, q⟩ => ⟨F, O, ρ, R, ha.mono _ _ _ (fun c k H' F' s R' =>
    mono_ite k (fun k => ⟨F', O, ρ, R', hb.mono _ _ _ (fun b k2 H2 F2 s2 R2 => k2 H2 F2 (s.trans s2) R2) k⟩) fun k => k H' F' s R') q⟩⟩
theorem dw_or (ha : DT X C a t) (hb : DW X C (.BoolOp .Or (b :: rest) pos) u) : DW X C (.BoolOp .Or (a :: b :: rest) pos) (tOrD t u) :=
  ⟨fun ρ P P' k => ha.mono _ _ _ fun c h => mono_ite h (k _) (hb.mono _ _ _ k), pw_imp (pw_or ha.run hb.run) fun σ H Q ⟨F, O, ρ, R, q⟩ => ⟨F, O, ρ, R, ha.mono _ _ _ (fun c k H' F' s R' =>
    mono_ite k (fun k => k H' F' s R') fun k => ⟨F', O, ρ, R', hb.mono _ _ _ (fun b k2 H2 F2 s2 R2 => k2 H2 F2 (s.trans s2) R2) k⟩) q⟩⟩
theorem dt_bool {op : BoolOp} {es : List Expr} (h : DW X C (.BoolOp op es pos) t) : DT X C (.BoolOp op es pos) t := ⟨h.mono, h.run.pt⟩
/-- a if t else b -/
def tIfD (t : TTD) (ta tb : TED) : TED := fun ρ P => t ρ fun c => if c = true then ta ρ P else tb ρ P
theorem pv_if {R' : PySem.W.Frag → RR} (hc : DT X C c t) (ha : PD X C a ta) (hb : PD X C b tb) : PD X C (.IfExp c a b pos) (tIfD t ta tb) :=
  ⟨fun ρ P P' k => hc.mono _ _ _ fun c h => mono_ite h (ha.mono _ _ _ k) (hb.mono _ _ _ k), pe_imp (pe_ifExp hc.run ha.run hb.run) fun σ H Q ⟨F, O, ρ, R, q⟩ => ⟨F, O, ρ, R, hc.mono _ _ _ (fun c k H' F' s R' =>
    mono_ite k (fun k => ⟨F', O, ρ, R', ha.mono _ _ _ (fun d k2 v H2 F2 s2 R2 r2 => k2 v H2 F2 (s.trans s2) R2 r2) k⟩) fun k => ⟨F', O, ρ, R', hb.mono _ _ _ (fun d k2 v H2 F2 s2 R2 r2 => k2 v H2 F2 (s.trans s2) R2 r2) k⟩) q⟩⟩
/-- a and b, a or b, not a as values: bools -/
def tAndV (ta tb : TED) : TED := fun ρ P => ta ρ fun d => isB d fun c => if c = true then tb ρ P else P (.bool false)
def tOrV (ta tb : TED) : TED := fun ρ P => ta ρ fun d => isB d fun c => if c = true then P (.bool true) else tb ρ P
def tNotV (ta : TED) : TED := fun ρ P => ta ρ fun d => isB d fun c => P (.bool (!c))
theorem pd_one {op : BoolOp} (h : PD X C a ta) : PD X C (.BoolOp op [a] pos) ta := ⟨h.mono, pe_one h.run⟩
theorem pd_and (ha : PD X C a ta) (hb : PD X C (.BoolOp .And (b :: rest) pos) tb) : PD X C (.BoolOp .And (a :: b :: rest) pos) (tAndV ta tb) :=
  ⟨fun ρ P P' k => ha.mono _ _ _ fun d => mono_isB fun c h => mono_ite h (hb.mono _ _ _ k) (k _), pe_imp (pe_and ha.run hb.run) fun σ H Q ⟨F, O, ρ, R, q⟩ => ⟨F, O, ρ, R, ha.mono _ _ _ (fun d k v H' F' s R' r => by
    obtain ⟨b, e, hb'⟩ := rdd_isB r k
    exact ⟨b, e, mono_ite hb' (fun k => ⟨F', O, ρ, R', hb.mono _ _ _ (fun d k2 v H2 F2 s2 R2 r2 => k2 v H2 F2 (s.trans s2) R2 r2) k⟩) fun k => k _ H' F' s R' rfl⟩) q⟩⟩
theorem pd_or (ha : PD X C a ta) (hb : PD X C (.BoolOp .Or (b :: rest) pos) tb) : PD X C (.BoolOp .Or (a :: b :: rest) pos) (tOrV ta tb) :=
  ⟨fun ρ P P' k => ha.mono _ _ _ fun d => mono_isB fun c h => mono_ite h (k _) (hb.mono _ _ _ k), pe_imp (pe_or ha.run hb.run) fun σ H Q ⟨F, O, ρ, R, q⟩ => ⟨F, O, ρ, R, ha.mono _ _ _ (fun d k v H' F' s R' r => by
    obtain ⟨b, e, hb'⟩ := rdd_isB r k
    exact ⟨b, e, mono_ite hb' (fun k => k _ H' F' s R' rfl) fun k => ⟨F', O, ρ, R', hb.mono _ _ _ (fun d k2 v H2 F2 s2 R2 r2 => k2 v H2 F2 (s.trans s2) R2 r2) k⟩⟩) q⟩⟩
theorem pd_not (ha : PD X C a ta) : PD X C (.UnaryOp .Not a pos) (tNotV ta) :=
  ⟨fun ρ P P' k => ha.mono _ _ _ fun d => mono_isB fun c => k _, pe_imp (pe_not ha.run) fun σ H Q ⟨F, O, ρ, R, q⟩ => ⟨F, O, ρ, R, ha.mono _ _ _ (fun d k v H' F' s R' r => by
    obtain ⟨b, e, hb⟩ := rdd_isB r k
    exact ⟨b, e, hb _ H' F' s R' rfl⟩) q⟩⟩
end

/-! ### names, constants -/
def tValD (i : Nat) : TED := fun ρ P => match ρ[i]? with
  | some (.val d) => P d
  | _ => False
def tOwnD (i : Nat) : TED := fun ρ P => match ρ[i]? with
  | some (.own ds) => P (.list ds)
  | _ => False
def tCD (d : D) : TED := fun _ P => P d
section
variable {X : Cx} {C : Ct}
theorem pd_var {i : Nat} {x : Str} {pos : Pos} (hN : X.N[i]? = some x := by rfl) (hv : Vis X.env.scope x := by first | exact Or.inl rfl | exact Or.inr (Or.inl rfl) | exact Or.inr (Or.inr rfl)) (hd : (x == ("__debug__" : Str)) = false := by decide)
    (hcd : (x == ("__classdict__" : Str)) = false := by decide) : PD X C (.Name x pos) (tValD i) := by
  refine ⟨fun ρ P P' k h => ?_, pe_imp (pe_var hN hv hd hcd) fun σ H Q ⟨F, O, ρ, R, q⟩ => ?_⟩
  · unfold tValD at h ⊢
    split at h
    · exact k _ h
    · exact h
  · unfold tValD at q
    split at q
    · rename_i d e
      obtain ⟨v, e1, r⟩ := R.sl i _ e
      exact ⟨v, e1, q v H F (Stp.refl _ _ _) R r⟩
    · exact q.elim
theorem po_own {i : Nat} {x : Str} {pos : Pos} (hN : X.N[i]? = some x := by rfl) (hv : Vis X.env.scope x := by first | exact Or.inl rfl | exact Or.inr (Or.inl rfl) | exact Or.inr (Or.inr rfl)) (hd : (x == ("__debug__" : Str)) = false := by decide)
    (hcd : (x == ("__classdict__" : Str)) = false := by decide) : PO X C (.Name x pos) (tOwnD i) := by
  refine ⟨fun ρ P P' k h => ?_, pe_imp (pe_var hN hv hd hcd) fun σ H Q ⟨F, O, ρ, R, q⟩ => ?_⟩
  · unfold tOwnD at h ⊢
    split at h
    · exact k _ h
    · exact h
  · unfold tOwnD at q
    split at q
    · rename_i ds e
      obtain ⟨a, vs, e1, ha, hl, r⟩ := R.sl i _ e
      exact ⟨_, e1, q _ H F (Stp.refl _ _ _) R ⟨a, vs, rfl, .inr ⟨i, ha⟩, hl, r⟩⟩
    · exact q.elim
theorem pd_c {e : Expr} {v : V} {d : D} (h : PE X e (tC v)) (r : ∀ K F H, Rdd K F H d v) : PD X C e (tCD d) :=
  ⟨fun ρ P P' k h => k _ h, pe_imp h fun σ H Q ⟨F, O, ρ, R, q⟩ => q v H F (Stp.refl _ _ _) R (r _ _ _)⟩
theorem pd_int {i : Int} {j pos} : PD X C (.Constant (.int i) j pos) (tCD (.int i)) := pd_c pe_int fun _ _ _ => rfl
theorem pd_bl {b : Bool} {j pos} : PD X C (.Constant (.bool b) j pos) (tCD (.bool b)) := pd_c pe_bl fun _ _ _ => rfl
theorem pd_non {j pos} : PD X C (.Constant .none j pos) (tCD .none) := pd_c pe_non fun _ _ _ => rfl
theorem pd_str {x : Str} {j pos} : PD X C (.Constant (.str x) j pos) (tCD (.str x)) := pd_c pe_str fun _ _ _ => rfl
end
end DL

namespace DL
open PySem PySem.Spec PyProof.Rows L2

class RRc (R : PySem.W.Frag → RR) : Prop where
  back : ∀ {K : PySem.W.Frag} {F : Addr → Prop} {O : Fps} {H₀ H₁ H : Hp} {d : D} {v : V} {q : Dq}, KpX q H₀ H₁ → R K F O H₁ H d v → R K F O H₀ H d v
instance : RRc rE := ⟨fun _ h => h⟩
instance : RRc rO := ⟨fun _ h => h⟩
instance : RRc rF := ⟨fun {K F O H₀ H₁ H d v q} k h => by
  cases d with
  | list ds => obtain ⟨a, vs, e, n, r⟩ := h; exact ⟨a, vs, e, k.free n, r⟩
  | _ => exact h.elim⟩

section
variable {K : PySem.W.Frag} {C : Ct} {F F' : Addr → Prop} {O : Fps} {ρ : List Slot} {σ : L2.St} {H H' : Hp} {d : D} {v : V} {ds : List D} {vs : List V}
/-- an operand stays -/
theorem rO_stp (R : Rel K C F O ρ σ H) (s : Stp C.q F F' H H') (h : rO K F O H H d v) : rO K F' O H' H' d v := by
  cases d with
  | list ds =>
    obtain ⟨a, vs, e, ha, hl, hr⟩ := h
    have k : a ≠ C.q.p ∧ a ≠ C.q.l := by
      rcases ha with ha | ⟨i, ha⟩
      · exact ⟨(R.fz a ha).1, (R.fz a ha).2.1⟩
      · exact ⟨(R.oo i a ha).2.1, (R.oo i a ha).2.2.1⟩
    exact ⟨a, vs, e, ha.imp (s.up a) id, s.kp.kp a _ hl k.1 k.2 (fun ps z => nomatch z), hr.stpR R s⟩
  | _ => exact Rdd.stpR R s h
theorem new_tup (R : Rel K C F O ρ σ H) (r : RdL K F H ds vs) {p : Addr} (n : H p = none) :
    Stp C.q F F H (upd H p (.tup vs)) ∧ Rel K C F O ρ σ (upd H p (.tup vs)) ∧ Rdd K F (upd H p (.tup vs)) (.tuple ds) (.ref p) :=
  ⟨Stp.new n, R.new n, p, vs, rfl, SqT.of upd_same, r.stpR R (Stp.new n)⟩
theorem new_lst (R : Rel K C F O ρ σ H) (r : RdL K F H ds vs) {p : Addr} (n : H p = none) :
    Stp C.q F F H (upd H p (.lst vs)) ∧ Rel K C F O ρ σ (upd H p (.lst vs)) ∧ rF K F O H (upd H p (.lst vs)) (.list ds) (.ref p) :=
  ⟨Stp.new n, R.new n, p, vs, rfl, Nn.of n, (R.np (Nn.of n)).2.2.2.1, (R.np (Nn.of n)).2.2.2.2, upd_same, r.stpR R (Stp.new n)⟩
end

/-! ### operations by values -/
def By1 (X : Cx) (C : Ct) (Rr : PySem.W.Frag → RR) (r : V → Hp → VK → Prop) (g : D → (D → Prop) → Prop) : Prop :=
  ∀ {F : Addr → Prop} {O : Fps} {ρ : List Slot} {σ : L2.St} {H : Hp} {x : D} {v : V} {Q : VK}, Rel X.K C F O ρ σ H → rO X.K F O H H x v →
    g x (fun z => ∀ vz H' F', Stp C.q F F' H H' → Rel X.K C F' O ρ σ H' → Rr X.K F' O H H' z vz → Q vz H') → r v H Q
def By2 (X : Cx) (C : Ct) (Rr : PySem.W.Frag → RR) (r : R2) (g : D → D → (D → Prop) → Prop) : Prop :=
  ∀ {F : Addr → Prop} {O : Fps} {ρ : List Slot} {σ : L2.St} {H : Hp} {x y : D} {v u : V} {Q : VK}, Rel X.K C F O ρ σ H → rO X.K F O H H x v → rO X.K F O H H y u →
    g x y (fun z => ∀ vz H' F', Stp C.q F F' H H' → Rel X.K C F' O ρ σ H' → Rr X.K F' O H H' z vz → Q vz H') → r v u H Q
def dUn (g : D → (D → Prop) → Prop) (te : TED) : TED := fun ρ P => te ρ fun x => g x P
def dBi (g : D → D → (D → Prop) → Prop) (ta tb : TED) : TED := fun ρ P => ta ρ fun x => tb ρ fun y => g x y P
def Mo1 (g : D → (D → Prop) → Prop) : Prop := ∀ x (P P' : D → Prop), (∀ d, P d → P' d) → g x P → g x P'
def Mo2 (g : D → D → (D → Prop) → Prop) : Prop := ∀ x y (P P' : D → Prop), (∀ d, P d → P' d) → g x y P → g x y P'
section
variable {X : Cx} {C : Ct} {Rr : PySem.W.Frag → RR} [RRc Rr] {e a b e' : Expr} {te ta tb : TED}
theorem pv_1 {r : V → Hp → VK → Prop} {g : D → (D → Prop) → Prop} (hp : ∀ {t : TE}, PE X e t → PE X e' (tUn r t)) (h : By1 X C Rr r g) (mg : Mo1 g) (ha : PO X C e te) : PV Rr X C e' (dUn g te) :=
  ⟨fun ρ P P' k => ha.mono _ _ _ fun d => mg _ _ _ k, pe_imp (hp ha.run) fun σ H Q ⟨F, O, ρ, R, q⟩ => ⟨F, O, ρ, R, ha.mono _ _ _ (fun x k v H1 F1 s1 R1 r1 =>
    h R1 r1 (mg _ _ _ (fun z kz vz H2 F2 s2 R2 r2 => kz vz H2 F2 (s1.trans s2) R2 (RRc.back s1.kp r2)) k)) q⟩⟩
theorem pv_2 {r : R2} {g : D → D → (D → Prop) → Prop} (hp : ∀ {t u : TE}, PE X a t → PE X b u → PE X e' (tOp r t u)) (h : By2 X C Rr r g) (mg : Mo2 g) (ha : PO X C a ta) (hb : PO X C b tb) : PV Rr X C e' (dBi g ta tb) :=
  ⟨fun ρ P P' k => ha.mono _ _ _ fun d => hb.mono _ _ _ fun d' => mg _ _ _ _ k, pe_imp (hp ha.run hb.run) fun σ H Q ⟨F, O, ρ, R, q⟩ => ⟨F, O, ρ, R, ha.mono _ _ _ (fun x k v H1 F1 s1 R1 r1 =>
    ⟨F1, O, ρ, R1, hb.mono _ _ _ (fun y k2 u H2 F2 s2 R2 r2 => h R2 (rO_stp R1 s2 r1) r2 (mg _ _ _ _ (fun z kz vz H3 F3 s3 R3 r3 => kz vz H3 F3 ((s1.trans s2).trans s3) R3 (RRc.back (s1.trans s2).kp r3)) k2)) k⟩) q⟩⟩
theorem By2.or {r r' : R2} {g : D → D → (D → Prop) → Prop} {sel : D → D → Bool} (h : By2 X C Rr r fun x y P => sel x y = true ∧ g x y P) (h' : By2 X C Rr r' fun x y P => sel x y = false ∧ g x y P) : By2 X C Rr (fun x y H Q => r x y H Q ∨ r' x y H Q) g :=
  fun {F O ρ σ H x y v u Q} R rx ry q => by
    cases e : sel x y with
    | true => exact .inl (h R rx ry ⟨e, q⟩)
    | false => exact .inr (h' R rx ry ⟨e, q⟩)
end

/-! ints -/
def gI (c : Int → Int → Prop) (f : Int → Int → D) : D → D → (D → Prop) → Prop
  | .int i, .int j, P => c i j ∧ P (f i j)
  | _, _, _ => False
theorem mo_gI {c : Int → Int → Prop} {f : Int → Int → D} : Mo2 (gI c f) := fun x y P P' k h => by
  cases x <;> first | exact h.elim | (cases y <;> first | exact h.elim | exact ⟨h.1, k _ h.2⟩)
theorem by_I {X : Cx} {C : Ct} {c : Int → Int → Prop} {f : Int → Int → D} {g : Int → Int → V} (hf : ∀ K F H i j, Rdd K F H (f i j) (g i j)) : By2 X C rE (rI c g) (gI c f) :=
  fun {F O ρ σ H x y v u Q} R rx ry h => by
    cases x <;> first | exact h.elim | skip
    cases y <;> first | exact h.elim | skip
    exact ⟨_, _, rx, ry, h.1, h.2 _ _ _ (Stp.refl _ _ _) R (hf _ _ _ _ _)⟩
def gI0 (f : Int → Int → D) : D → D → (D → Prop) → Prop
  | .int i, .int j, P => P (f i j)
  | _, _, _ => False
theorem mo_gI0 {f : Int → Int → D} : Mo2 (gI0 f) := fun x y P P' k h => by
  cases x <;> first | exact h.elim | (cases y <;> first | exact h.elim | exact k _ h)
theorem by_I0 {X : Cx} {C : Ct} {f : Int → Int → D} {g : Int → Int → V} (hf : ∀ K F H i j, Rdd K F H (f i j) (g i j)) : By2 X C rE (rI0 g) (gI0 f) :=
  fun {F O ρ σ H x y v u Q} R rx ry h => by
    cases x <;> first | exact h.elim | skip
    cases y <;> first | exact h.elim | skip
    exact ⟨_, _, rx, ry, h _ _ _ (Stp.refl _ _ _) R (hf _ _ _ _ _)⟩
/-! + of ints, texts, tuples -/
def gAdd : D → D → (D → Prop) → Prop
  | .int i, .int j, P => P (.int (i + j))
  | .str a, .str b, P => a.length + b.length ≤ sizeLine ∧ P (.str (a ++ b))
  | .tuple xs, .tuple ys, P => xs.length + ys.length ≤ sizeLine ∧ P (.tuple (xs ++ ys))
  | _, _, _ => False
theorem mo_gAdd : Mo2 gAdd := fun x y P P' k h => by
  cases x <;> first | exact h.elim | (cases y <;> first | exact h.elim | exact k _ h | exact ⟨h.1, k _ h.2⟩)
def gCat : D → D → (D → Prop) → Prop
  | .list xs, .list ys, P => xs.length + ys.length ≤ sizeLine ∧ P (.list (xs ++ ys))
  | _, _, _ => False
theorem mo_gCat : Mo2 gCat := fun x y P P' k h => by
  cases x <;> first | exact h.elim | (cases y <;> first | exact h.elim | exact ⟨h.1, k _ h.2⟩)
section
variable {X : Cx} {C : Ct}
def rAddAll (K : PySem.W.Frag) : R2 := fun x y H Q => (∃ i j, x = .int i ∧ y = .int j ∧ Q (.int (i + j)) H) ∨ (∃ i j, x = .str i ∧ y = .str j ∧ i.length + j.length ≤ sizeLine ∧ Q (.str (i ++ j)) H) ∨ rCatA K x y H Q
theorem op_addAll : OpR X (binaryOp .Add) (rAddAll X.K) := op_add.or (op_add_str.or op_catA)
theorem by_add : By2 X C rE (rAddAll X.K) gAdd := fun {F O ρ σ H x y v u Q} R rx ry h => by
  cases x <;> first | exact h.elim | skip
  · cases y <;> first | exact h.elim | skip
    exact .inl ⟨_, _, rx, ry, h _ _ _ (Stp.refl _ _ _) R rfl⟩
  · cases y <;> first | exact h.elim | skip
    exact .inr (.inl ⟨_, _, rx, ry, h.1, h.2 _ _ _ (Stp.refl _ _ _) R rfl⟩)
  · cases y <;> first | exact h.elim | skip
    rename_i xs ys
    obtain ⟨a, vs, e1, t1, r1⟩ := rx
    obtain ⟨b, us, e2, t2, r2⟩ := ry
    refine .inr (.inr ⟨a, b, vs, us, e1, e2, t1, t2, by rw [r1.len, r2.len]; exact h.1, fun z => ?_, fun _ z => ?_, fun _ _ p n => ?_⟩)
    · refine h.2 _ _ _ (Stp.refl _ _ _) R ⟨b, us, rfl, t2, ?_⟩
      have : xs = [] := List.length_eq_zero_iff.mp (by rw [← r1.len, z]; rfl)
      rw [this]; exact r2
    · refine h.2 _ _ _ (Stp.refl _ _ _) R ⟨a, vs, rfl, t1, ?_⟩
      have : ys = [] := List.length_eq_zero_iff.mp (by rw [← r2.len, z]; rfl)
      rw [this, List.append_nil]; exact r1
    · obtain ⟨s, R', r⟩ := new_tup R (r1.append r2) n
      exact h.2 _ _ _ s R' r
theorem by_cat : By2 X C rF rCat gCat := fun {F O ρ σ H x y v u Q} R rx ry h => by
  cases x <;> first | exact h.elim | skip
  cases y <;> first | exact h.elim | skip
  obtain ⟨a, vs, e1, _, t1, r1⟩ := rx
  obtain ⟨b, us, e2, _, t2, r2⟩ := ry
  refine ⟨a, b, vs, us, e1, e2, t1, t2, by rw [r1.len, r2.len]; exact h.1, fun p n => ?_⟩
  obtain ⟨s, R', r⟩ := new_lst R (r1.append r2) n
  exact h.2 _ _ _ s R' r
variable {a b : Expr} {ta tb : TED} {pos : Pos}
theorem pd_add (ha : PO X C a ta) (hb : PO X C b tb) : PD X C (.BinOp a .Add b pos) (dBi gAdd ta tb) := pv_2 (pe_op op_addAll) by_add mo_gAdd ha hb
theorem pf_cat (ha : PO X C a ta) (hb : PO X C b tb) : PF X C (.BinOp a .Add b pos) (dBi gCat ta tb) := pv_2 (pe_op op_cat) by_cat mo_gCat ha hb
abbrev gSub := gI0 fun i j => .int (i - j)
theorem pd_sub (ha : PO X C a ta) (hb : PO X C b tb) : PD X C (.BinOp a .Sub b pos) (dBi gSub ta tb) := pv_2 (pe_op op_sub) (by_I0 fun _ _ _ _ _ => by exact rfl) mo_gI0 ha hb
abbrev gMul := gI CMulW fun i j => .int (i * j)
theorem pd_mul (ha : PO X C a ta) (hb : PO X C b tb) : PD X C (.BinOp a .Mult b pos) (dBi gMul ta tb) := pv_2 (pe_op op_mulW) (by_I fun _ _ _ _ _ => by exact rfl) mo_gI ha hb
abbrev gDiv := gI CDivW fun i j => .int (i / j)
theorem pd_div (ha : PO X C a ta) (hb : PO X C b tb) : PD X C (.BinOp a .FloorDiv b pos) (dBi gDiv ta tb) := pv_2 (pe_op op_fdivW) (by_I fun _ _ _ _ _ => by exact rfl) mo_gI ha hb
abbrev gMod := gI (fun _ j => 0 < j) fun i j => .int (i % j)
theorem pd_mod (ha : PO X C a ta) (hb : PO X C b tb) : PD X C (.BinOp a .Mod b pos) (dBi gMod ta tb) := pv_2 (pe_op op_mod) (by_I fun _ _ _ _ _ => by exact rfl) mo_gI ha hb
abbrev gPow := gI CPow fun i j => .int (i ^ j.toNat)
theorem pd_pow (ha : PO X C a ta) (hb : PO X C b tb) : PD X C (.BinOp a .Pow b pos) (dBi gPow ta tb) := pv_2 (pe_op op_pow) (by_I fun _ _ _ _ _ => by exact rfl) mo_gI ha hb
abbrev gAnd := gI0 fun i j => .int (Builtin.bitAnd i j)
theorem pd_and_i (ha : PO X C a ta) (hb : PO X C b tb) : PD X C (.BinOp a .BitAnd b pos) (dBi gAnd ta tb) := pv_2 (pe_op op_and) (by_I0 fun _ _ _ _ _ => by exact rfl) mo_gI0 ha hb
def gNeg : D → (D → Prop) → Prop
  | .int i, P => P (.int (-i))
  | _, _ => False
theorem mo_gNeg : Mo1 gNeg := fun x P P' k h => by cases x <;> first | exact h.elim | exact k _ h
theorem pd_neg (ha : PO X C a ta) : PD X C (.UnaryOp .USub a pos) (dUn gNeg ta) := pv_1 (pe_un un_neg) (fun {F O ρ σ H x v Q} R rx h => by
  cases x <;> first | exact h.elim | skip
  exact ⟨_, rx, h _ _ _ (Stp.refl _ _ _) R rfl⟩) mo_gNeg ha
/-! comparisons of ints -/
abbrev gLt := gI0 fun i j => .bool (decide (i < j))
abbrev gLe := gI0 fun i j => .bool (decide (i ≤ j))
abbrev gGt := gI0 fun i j => .bool (decide (j < i))
abbrev gGe := gI0 fun i j => .bool (decide (j ≤ i))
theorem pd_lt (ha : PO X C a ta) (hb : PO X C b tb) : PD X C (.Compare a [.Lt] [b] pos) (dBi gLt ta tb) := pv_2 (fun h h' => pe_cmpR op_lt h h' (nomark _)) (by_I0 fun _ _ _ _ _ => by exact rfl) mo_gI0 ha hb
theorem pd_le (ha : PO X C a ta) (hb : PO X C b tb) : PD X C (.Compare a [.LtE] [b] pos) (dBi gLe ta tb) := pv_2 (fun h h' => pe_cmpR op_le h h' (nomark _)) (by_I0 fun _ _ _ _ _ => by exact rfl) mo_gI0 ha hb
theorem pd_gt (ha : PO X C a ta) (hb : PO X C b tb) : PD X C (.Compare a [.Gt] [b] pos) (dBi gGt ta tb) := pv_2 (fun h h' => pe_cmpR op_gt h h' (nomark _)) (by_I0 fun _ _ _ _ _ => by exact rfl) mo_gI0 ha hb
theorem pd_ge (ha : PO X C a ta) (hb : PO X C b tb) : PD X C (.Compare a [.GtE] [b] pos) (dBi gGe ta tb) := pv_2 (fun h h' => pe_cmpR op_ge h h' (nomark _)) (by_I0 fun _ _ _ _ _ => by exact rfl) mo_gI0 ha hb
/-! == and != of flat things: none, bools, ints, texts -/
def gEqS (neg : Bool) : D → D → (D → Prop) → Prop
  | .int i, .int j, P => P (.bool (if neg then !decide (i = j) else decide (i = j)))
  | .str i, .str j, P => P (.bool (if neg then !decide (i = j) else decide (i = j)))
  | .bool i, .bool j, P => P (.bool (if neg then !decide (i = j) else decide (i = j)))
  | _, _, _ => False
theorem mo_gEqS {neg : Bool} : Mo2 (gEqS neg) := fun x y P P' k h => by
  cases x <;> first | exact h.elim | (cases y <;> first | exact h.elim | exact k _ h)
theorem by_eqS : By2 X C rE rEq (gEqS false) := fun {F O ρ σ H x y v u Q} R rx ry h => by
  cases x <;> first | exact h.elim | (cases y <;> first | exact h.elim | skip)
  all_goals
    cases rx; cases ry
    refine ⟨rfl, ?_⟩
    refine h _ _ _ (Stp.refl _ _ _) R ?_
    simp [rE, Rdd]
theorem by_neS : By2 X C rE rNe (gEqS true) := fun {F O ρ σ H x y v u Q} R rx ry h => by
  cases x <;> first | exact h.elim | (cases y <;> first | exact h.elim | skip)
  all_goals
    cases rx; cases ry
    refine ⟨rfl, ?_⟩
    refine h _ _ _ (Stp.refl _ _ _) R ?_
    simp [rE, Rdd]
theorem pd_eqS (ha : PO X C a ta) (hb : PO X C b tb) : PD X C (.Compare a [.Eq] [b] pos) (dBi (gEqS false) ta tb) := pv_2 (fun h h' => pe_cmpR op_eq h h' (nomark _)) by_eqS mo_gEqS ha hb
theorem pd_neS (ha : PO X C a ta) (hb : PO X C b tb) : PD X C (.Compare a [.NotEq] [b] pos) (dBi (gEqS true) ta tb) := pv_2 (fun h h' => pe_cmpR op_ne h h' (nomark _)) by_neS mo_gEqS ha hb
/-! x is None -/
def gIsN (neg : Bool) : D → (D → Prop) → Prop := fun x P => P (.bool (match x with | .none => !neg | _ => neg))
end
end DL

namespace DL
open PySem PySem.Spec PyProof.Rows L2

/-! ### items and slices -/
section
variable {K : PySem.W.Frag} {S : Addr → Prop} {H : Hp} {ds : List D} {vs : List V}
theorem RdL.atI {i : Int} {d : D} (r : RdL K S H ds vs) (h : atI ds i = some d) : ∃ v, L2.atI vs i = some v ∧ Rdd K S H d v := by
  unfold L2.atI at h ⊢
  rw [r.len]
  cases e : ixN ds.length i with
  | none => rw [e] at h; cases h
  | some j =>
    rw [e] at h
    exact r.get h
def cutD (ds : List D) (lo hi : Option Int) : List D := (ds.drop (HT.sIx ds.length 0 lo)).take (HT.sIx ds.length ds.length hi - HT.sIx ds.length 0 lo)
theorem RdL.cut (r : RdL K S H ds vs) (lo hi : Option Int) : RdL K S H (cutD ds lo hi) (cutV vs lo hi) := by
  unfold cutD cutV
  rw [r.len]
  exact (r.drop _).take _
end
def gIx : D → D → (D → Prop) → Prop
  | .list ds, .int i, P => ∃ d, L2.atI ds i = some d ∧ P d
  | .tuple ds, .int i, P => ∃ d, L2.atI ds i = some d ∧ P d
  | .str z, .int i, P => z.length ≤ sizeLine ∧ ∃ c, L2.atI z.cps.toList i = some c ∧ P (.str ⟨#[c]⟩)
  | _, _, _ => False
theorem mo_gIx : Mo2 gIx := fun x y P P' k h => by
  cases x <;> first | exact h.elim | (cases y <;> first | exact h.elim | skip)
  · exact ⟨h.1, h.2.choose, h.2.choose_spec.1, k _ h.2.choose_spec.2⟩
  · exact ⟨h.choose, h.choose_spec.1, k _ h.choose_spec.2⟩
  · exact ⟨h.choose, h.choose_spec.1, k _ h.choose_spec.2⟩
section
variable {X : Cx} {C : Ct} {a b e : Expr} {ta tb te : TED} {pos p p2 : Pos}
theorem by_ix : By2 X C rE (rIx X.K) gIx := fun {F O ρ σ H x y v u Q} R rx ry h => by
  cases x <;> first | exact h.elim | (cases y <;> first | exact h.elim | skip)
  · obtain ⟨h1, c, ec, h2⟩ := h
    exact .inr (.inr ⟨_, _, _, rx, ry, h1, ec, h2 _ _ _ (Stp.refl _ _ _) R rfl⟩)
  · obtain ⟨d, ed, h⟩ := h
    obtain ⟨a, vs, e1, _, t1, r1⟩ := rx
    obtain ⟨z, ez, rz⟩ := r1.atI ed
    exact .inl ⟨a, vs, _, z, e1, ry, SqL.of t1, ez, h _ _ _ (Stp.refl _ _ _) R rz⟩
  · obtain ⟨d, ed, h⟩ := h
    obtain ⟨a, vs, e1, t1, r1⟩ := rx
    obtain ⟨z, ez, rz⟩ := r1.atI ed
    exact .inr (.inl ⟨a, vs, _, z, e1, ry, t1, ez, h _ _ _ (Stp.refl _ _ _) R rz⟩)
theorem pd_ix (ha : PO X C a ta) (hb : PO X C b tb) (hs : PlainIx b := by exact fun _ _ => rfl) : PD X C (.Subscript a b pos) (dBi gIx ta tb) := pv_2 (fun h h' => pe_ix ix_seq h h' hs) by_ix mo_gIx ha hb

/-! slices a[lo:hi] -/
abbrev TOD := List Slot → (Option Int → Prop) → Prop
def liftP (K : PySem.W.Frag) (C : Ct) (t : TOD) : L2.TO := fun σ H Q => ∃ F O ρ, Rel K C F O ρ σ H ∧ t ρ fun o => ∀ H' F', Stp C.q F F' H H' → Rel K C F' O ρ σ H' → Q o H'
structure DP (X : Cx) (C : Ct) (e : Option Expr) (t : TOD) : Prop where
  mono : ∀ ρ (P P' : Option Int → Prop), (∀ o, P o → P' o) → t ρ P → t ρ P'
  run : L2.PO X e (liftP X.K C t)
def isI : D → (Int → Prop) → Prop
  | .int i, P => P i
  | _, _ => False
def oNone : TOD := fun _ P => P none
def oSome (te : TED) : TOD := fun ρ P => te ρ fun d => isI d fun i => P (some i)
theorem po_imp {o : Option Expr} {t t' : L2.TO} (h : L2.PO X o t) (i : ∀ σ H Q, t' σ H Q → t σ H Q) : L2.PO X o t' := ⟨fun pins s σ H Q I q => h.run pins s σ H Q I (i σ H Q q)⟩
theorem dp_none : DP X C none oNone := ⟨fun _ _ _ k h => k _ h, po_imp po_none fun σ H Q ⟨F, O, ρ, R, q⟩ => q H F (Stp.refl _ _ _) R⟩
theorem dp_some (h : PD X C e te) : DP X C (some e) (oSome te) :=
  ⟨fun ρ P P' k => h.mono _ _ _ fun d hd => by cases d <;> first | exact hd.elim | exact k _ hd, po_imp (po_some h.run) fun σ H Q ⟨F, O, ρ, R, q⟩ => ⟨F, O, ρ, R, h.mono _ _ _ (fun d k v H' F' s R' r => by
    cases d <;> first | exact k.elim | exact ⟨_, r, k H' F' s R'⟩) q⟩⟩
def gSlT : D → Option Int → Option Int → (D → Prop) → Prop
  | .tuple ds, lo, hi, P => P (.tuple (cutD ds lo hi))
  | .str z, lo, hi, P => z.length ≤ sizeLine ∧ P (.str (cutS z lo hi))
  | _, _, _, _ => False
def gSlL : D → Option Int → Option Int → (D → Prop) → Prop
  | .list ds, lo, hi, P => P (.list (cutD ds lo hi))
  | _, _, _, _ => False
def dSl (g : D → Option Int → Option Int → (D → Prop) → Prop) (te : TED) (tl th : TOD) : TED := fun ρ P => te ρ fun x => tl ρ fun l => th ρ fun u => g x l u P
def BySl (X : Cx) (C : Ct) (Rr : PySem.W.Frag → RR) (r : V → Option Int → Option Int → Hp → VK → Prop) (g : D → Option Int → Option Int → (D → Prop) → Prop) : Prop :=
  ∀ {F : Addr → Prop} {O : Fps} {ρ : List Slot} {σ : L2.St} {H : Hp} {x : D} {v : V} {l u : Option Int} {Q : VK}, Rel X.K C F O ρ σ H → rO X.K F O H H x v →
    g x l u (fun z => ∀ vz H' F', Stp C.q F F' H H' → Rel X.K C F' O ρ σ H' → Rr X.K F' O H H' z vz → Q vz H') → r v l u H Q
theorem pv_sl {Rr : PySem.W.Frag → RR} [RRc Rr] {r : V → Option Int → Option Int → Hp → VK → Prop} {g : D → Option Int → Option Int → (D → Prop) → Prop} {lo hi : Option Expr} {tl th : TOD} (hr : SlR X r) (h : BySl X C Rr r g)
    (mg : ∀ x l u (P P' : D → Prop), (∀ d, P d → P' d) → g x l u P → g x l u P') (he : PO X C e te) (hl : DP X C lo tl) (hu : DP X C hi th) : PV Rr X C (.Subscript e (.Slice lo hi none p2) pos) (dSl g te tl th) :=
  ⟨fun ρ P P' k => he.mono _ _ _ fun d => hl.mono _ _ _ fun l => hu.mono _ _ _ fun u => mg _ _ _ _ _ k, pe_imp (pe_slice hr he.run hl.run hu.run) fun σ H Q ⟨F, O, ρ, R, q⟩ => ⟨F, O, ρ, R, he.mono _ _ _ (fun x k v H1 F1 s1 R1 r1 =>
    ⟨F1, O, ρ, R1, hl.mono _ _ _ (fun l k2 H2 F2 s2 R2 => ⟨F2, O, ρ, R2, hu.mono _ _ _ (fun u k3 H3 F3 s3 R3 =>
      h R3 (rO_stp R1 (s2.trans s3) r1) (mg _ _ _ _ _ (fun z kz vz H4 F4 s4 R4 r4 => kz vz H4 F4 (((s1.trans s2).trans s3).trans s4) R4 (RRc.back ((s1.trans s2).trans s3).kp r4)) k3)) k2⟩) k⟩) q⟩⟩
theorem pd_slT {lo hi : Option Expr} {tl th : TOD} (he : PO X C e te) (hl : DP X C lo tl) (hu : DP X C hi th) : PD X C (.Subscript e (.Slice lo hi none p2) pos) (dSl gSlT te tl th) :=
  pv_sl (sl_tupA.or sl_str) (fun {F O ρ σ H x v l u Q} R rx h => by
    cases x <;> first | exact h.elim | skip
    · exact .inr ⟨_, rx, h.1, h.2 _ _ _ (Stp.refl _ _ _) R rfl⟩
    · obtain ⟨a, vs, e1, t1, r1⟩ := rx
      refine .inl ⟨a, vs, e1, t1, fun z => ?_, fun _ p n => ?_⟩
      · refine h _ _ _ (Stp.refl _ _ _) R ⟨a, vs, rfl, t1, ?_⟩
        have : cutV vs l u = vs := by
          unfold cutV
          rw [z.1, z.2, List.drop_zero, Nat.sub_zero, List.take_length]
        have r2 := r1.cut l u
        rw [this] at r2
        exact r2
      · obtain ⟨s, R', r⟩ := new_tup R (r1.cut l u) n
        exact h _ _ _ s R' r) (fun x l u P P' k h => by cases x <;> first | exact h.elim | exact k _ h | exact ⟨h.1, k _ h.2⟩) he hl hu
theorem pf_slL {lo hi : Option Expr} {tl th : TOD} (he : PO X C e te) (hl : DP X C lo tl) (hu : DP X C hi th) : PF X C (.Subscript e (.Slice lo hi none p2) pos) (dSl gSlL te tl th) :=
  pv_sl sl_list (fun {F O ρ σ H x v l u Q} R rx h => by
    cases x <;> first | exact h.elim | skip
    obtain ⟨a, vs, e1, _, t1, r1⟩ := rx
    refine ⟨a, vs, e1, SqL.of t1, fun p n => ?_⟩
    obtain ⟨s, R', r⟩ := new_lst R (r1.cut l u) n
    exact h _ _ _ s R' r) (fun x l u P P' k h => by cases x <;> first | exact h.elim | exact k _ h) he hl hu
/-! xs[::-1] of a list -/
def gRevL : D → (D → Prop) → Prop
  | .list ds, P => P (.list ds.reverse)
  | _, _ => False
theorem mo_gRevL : Mo1 gRevL := fun x P P' k h => by cases x <;> first | exact h.elim | exact k _ h
theorem pf_revL {k : Nat} {p1 p3 : Pos} (he : PO X C e te) : PF X C (.Subscript e (.Slice none none (some (.UnaryOp .USub (.Constant (.int 1) k p1) p2)) p3) pos) (dUn gRevL te) :=
  pv_1 (r := fun x H Q => ∃ a xs, x = .ref a ∧ SqL X.K H a xs ∧ ∀ p, H p = none → Q (.ref p) (upd H p (.lst xs.reverse))) pe_revL (fun {F O ρ σ H x v Q} R rx h => by
    cases x <;> first | exact h.elim | skip
    obtain ⟨a, vs, e1, _, t1, r1⟩ := rx
    refine ⟨a, vs, e1, SqL.of t1, fun p n => ?_⟩
    obtain ⟨s, R', r⟩ := new_lst R r1.rev n
    exact h _ _ _ s R' r) mo_gRevL he

/-! ### displays -/
abbrev TLD := List Slot → (List D → Prop) → Prop
def liftL (K : PySem.W.Frag) (C : Ct) (t : TLD) : TA := fun σ H Q => ∃ F O ρ, Rel K C F O ρ σ H ∧ t ρ fun ds => ∀ vs H' F', Stp C.q F F' H H' → Rel K C F' O ρ σ H' → RdL K F' H' ds vs → Q vs H'
structure DS (X : Cx) (C : Ct) (es : List Expr) (t : TLD) : Prop where
  mono : ∀ ρ (P P' : List D → Prop), (∀ d, P d → P' d) → t ρ P → t ρ P'
  run : PA X es (liftL X.K C t)
def lNil : TLD := fun _ P => P []
def lCons (te : TED) (tl : TLD) : TLD := fun ρ P => te ρ fun d => tl ρ fun ds => P (d :: ds)
variable {es : List Expr} {tl : TLD}
theorem ds_nil : DS X C [] lNil := ⟨fun _ _ _ k h => k _ h, pa_imp pa_nil fun σ H Q ⟨F, O, ρ, R, q⟩ => q [] H F (Stp.refl _ _ _) R rfl⟩
theorem ds_cons (h : PD X C e te) (ha : DS X C es tl) (hs : starEach (e :: es) X.env = (false, eval e X.env) :: starEach es X.env := by rfl) : DS X C (e :: es) (lCons te tl) :=
  ⟨fun ρ P P' k => h.mono _ _ _ fun d => ha.mono _ _ _ fun as => k _, pa_imp (pa_cons h.run ha.run hs) fun σ H Q ⟨F, O, ρ, R, q⟩ =>
    ⟨F, O, ρ, R, h.mono _ _ _ (fun d k v H1 F1 s1 R1 r1 => ⟨F1, O, ρ, R1, ha.mono _ _ _ (fun as k2 vs H2 F2 s2 R2 r2 => k2 _ H2 F2 (s1.trans s2) R2 ⟨v, vs, rfl, Rdd.stpR R1 s2 r1, r2⟩) k⟩) q⟩⟩
def dTup (tl : TLD) : TED := fun ρ P => tl ρ fun ds => ds.length ≤ sizeLine ∧ P (.tuple ds)
def dLst (tl : TLD) : TED := fun ρ P => tl ρ fun ds => ds.length ≤ sizeLine ∧ P (.list ds)
theorem pd_tup {x1} (h : DS X C es tl) : PD X C (.Tuple es x1 pos) (dTup tl) :=
  ⟨fun ρ P P' k => h.mono _ _ _ fun ds z => ⟨z.1, k _ z.2⟩, pe_imp (pe_tup h.run) fun σ H Q ⟨F, O, ρ, R, q⟩ => ⟨F, O, ρ, R, h.mono _ _ _ (fun ds k vs H1 F1 s1 R1 r1 => ⟨by rw [r1.len]; exact k.1, fun p n => by
    obtain ⟨s, R', r⟩ := new_tup R1 r1 n
    exact k.2 _ _ _ (s1.trans s) R' r⟩) q⟩⟩
theorem pf_lst (h : DS X C es tl) : PF X C (.List es pos) (dLst tl) :=
  ⟨fun ρ P P' k => h.mono _ _ _ fun ds z => ⟨z.1, k _ z.2⟩, pe_imp (pe_lst h.run) fun σ H Q ⟨F, O, ρ, R, q⟩ => ⟨F, O, ρ, R, h.mono _ _ _ (fun ds k vs H1 F1 s1 R1 r1 => ⟨by rw [r1.len]; exact k.1, fun p n => by
    obtain ⟨s, R', r⟩ := new_lst R1 r1 n
    exact k.2 _ _ _ (s1.trans s) R' (RRc.back (R := rF) s1.kp r)⟩) q⟩⟩

/-! ### built-ins of one argument -/
theorem pv_b1 {Rr : PySem.W.Frag → RR} [RRc Rr] {id : String} {r : List V → Hp → VK → Prop} {g : D → (D → Prop) → Prop} {x : Str} (hc : CallR X (.builtin id) r) (h : By1 X C Rr (fun v => r [v]) g) (mg : Mo1 g) (hg : Gl X x) (hm : X.mg x = none) (hv : bootBuiltins x = some (.builtin id)) (he : PO X C e te)
    (hn : x ≠ "__name__" := by decide) (hdb : (x == ("__debug__" : Str)) = false := by decide) (hs : starEach [e] X.env = (false, eval e X.env) :: starEach [] X.env := by rfl) : PV Rr X C (.Call (.Name x p) [e] [] pos) (dUn g te) :=
  pv_1 (fun h => pe_imp (pe_callB hc hg hm hv (pa_cons h pa_nil hs) hn hdb hs) fun σ H Q q => q) h mg he
theorem pv_t1 {Rr : PySem.W.Frag → RR} [RRc Rr] {id : String} {r : List V → Hp → VK → Prop} {g : D → (D → Prop) → Prop} {x : Str} (hc : CallR X (.type id) r) (h : By1 X C Rr (fun v => r [v]) g) (mg : Mo1 g) (hg : Gl X x) (hm : X.mg x = none) (hv : bootBuiltins x = some (.type id)) (he : PO X C e te)
    (hn : x ≠ "__name__" := by decide) (hdb : (x == ("__debug__" : Str)) = false := by decide) (hs : starEach [e] X.env = (false, eval e X.env) :: starEach [] X.env := by rfl) : PV Rr X C (.Call (.Name x p) [e] [] pos) (dUn g te) :=
  pv_1 (fun h => pe_imp (pe_callTy hc hg hm hv (pa_cons h pa_nil hs) hn hdb hs) fun σ H Q q => q) h mg he
/-! len -/
def gLen : D → (D → Prop) → Prop
  | .list ds, P => P (.int ds.length)
  | .tuple ds, P => P (.int ds.length)
  | .str z, P => z.length ≤ sizeLine ∧ P (.int z.length)
  | _, _ => False
theorem mo_gLen : Mo1 gLen := fun x P P' k h => by cases x <;> first | exact h.elim | exact k _ h | exact ⟨h.1, k _ h.2⟩
theorem pd_len (hg : Gl X "len") (hm : X.mg "len" = none) (he : PO X C e te) (hs : starEach [e] X.env = (false, eval e X.env) :: starEach [] X.env := by rfl) : PD X C (.Call (.Name "len" p) [e] [] pos) (dUn gLen te) :=
  pv_b1 call_len (fun {F O ρ σ H x v Q} R rx h => by
    cases x <;> first | exact h.elim | skip
    · rename_i z
      refine ⟨v, z.length, rfl, ?_, h.2 _ _ _ (Stp.refl _ _ _) R rfl⟩
      cases rx
      exact ⟨h.1, rfl⟩
    · obtain ⟨a, vs, e1, _, t1, r1⟩ := rx
      refine ⟨v, vs.length, rfl, ?_, by rw [r1.len]; exact h _ _ _ (Stp.refl _ _ _) R rfl⟩
      rw [e1]
      exact .inl ⟨vs, SqL.of t1, rfl⟩
    · obtain ⟨a, vs, e1, t1, r1⟩ := rx
      refine ⟨v, vs.length, rfl, ?_, by rw [r1.len]; exact h _ _ _ (Stp.refl _ _ _) R rfl⟩
      rw [e1]
      exact .inr ⟨vs, t1, rfl⟩) mo_gLen hg hm PySem.boot_len he (hs := hs)
/-! abs, int, str of an int -/
def gAbs : D → (D → Prop) → Prop
  | .int i, P => P (.int (if i < 0 then -i else i))
  | _, _ => False
theorem mo_gAbs : Mo1 gAbs := fun x P P' k h => by cases x <;> first | exact h.elim | exact k _ h
theorem pd_abs (hg : Gl X "abs") (hm : X.mg "abs" = none) (he : PO X C e te) (hs : starEach [e] X.env = (false, eval e X.env) :: starEach [] X.env := by rfl) : PD X C (.Call (.Name "abs" p) [e] [] pos) (dUn gAbs te) :=
  pv_b1 call_abs (fun {F O ρ σ H x v Q} R rx h => by
    cases x <;> first | exact h.elim | skip
    exact ⟨_, by rw [show v = _ from rx], h _ _ _ (Stp.refl _ _ _) R rfl⟩) mo_gAbs hg hm (by decide +kernel) he (hs := hs)
def gInt : D → (D → Prop) → Prop
  | .int i, P => P (.int i)
  | .bool b, P => P (.int (if b then 1 else 0))
  | _, _ => False
theorem mo_gInt : Mo1 gInt := fun x P P' k h => by cases x <;> first | exact h.elim | exact k _ h
theorem pd_int1 (hg : Gl X "int") (hm : X.mg "int" = none) (he : PO X C e te) (hs : starEach [e] X.env = (false, eval e X.env) :: starEach [] X.env := by rfl) : PD X C (.Call (.Name "int" p) [e] [] pos) (dUn gInt te) :=
  pv_t1 call_int1 (fun {F O ρ σ H x v Q} R rx h => by
    cases x <;> first | exact h.elim | skip
    · exact .inr ⟨_, by rw [show v = _ from rx], h _ _ _ (Stp.refl _ _ _) R rfl⟩
    · exact .inl ⟨_, by rw [show v = _ from rx], h _ _ _ (Stp.refl _ _ _) R rfl⟩) mo_gInt hg hm (by decide +kernel) he (hs := hs)
def gStr : D → (D → Prop) → Prop
  | .int i, P => i.natAbs.log2 < 1920 ∧ P (.str (toString i))
  | _, _ => False
theorem mo_gStr : Mo1 gStr := fun x P P' k h => by cases x <;> first | exact h.elim | exact ⟨h.1, k _ h.2⟩
theorem pd_str1 (hg : Gl X "str") (hm : X.mg "str" = none) (he : PO X C e te) (hs : starEach [e] X.env = (false, eval e X.env) :: starEach [] X.env := by rfl) : PD X C (.Call (.Name "str" p) [e] [] pos) (dUn gStr te) :=
  pv_t1 call_str_int (fun {F O ρ σ H x v Q} R rx h => by
    cases x <;> first | exact h.elim | skip
    exact ⟨_, by rw [show v = _ from rx], h.1, h.2 _ _ _ (Stp.refl _ _ _) R rfl⟩) mo_gStr hg hm (by decide +kernel) he (hs := hs)
/-! list(x), tuple(x) of a list or a tuple -/
def gList : D → (D → Prop) → Prop
  | .list ds, P => P (.list ds)
  | .tuple ds, P => P (.list ds)
  | _, _ => False
theorem mo_gList : Mo1 gList := fun x P P' k h => by cases x <;> first | exact h.elim | exact k _ h
theorem pf_list (hg : Gl X "list") (hm : X.mg "list" = none) (he : PO X C e te) (hs : starEach [e] X.env = (false, eval e X.env) :: starEach [] X.env := by rfl) : PF X C (.Call (.Name "list" p) [e] [] pos) (dUn gList te) :=
  pv_t1 call_list_of (fun {F O ρ σ H x v Q} R rx h => by
    cases x <;> first | exact h.elim | skip
    · obtain ⟨a, vs, e1, _, t1, r1⟩ := rx
      refine ⟨a, vs, by rw [e1], .inl (SqL.of t1), fun p n => ?_⟩
      obtain ⟨s, R', r⟩ := new_lst R r1 n
      exact h _ _ _ s R' r
    · obtain ⟨a, vs, e1, t1, r1⟩ := rx
      refine ⟨a, vs, by rw [e1], .inr t1, fun p n => ?_⟩
      obtain ⟨s, R', r⟩ := new_lst R r1 n
      exact h _ _ _ s R' r) mo_gList hg hm (by decide +kernel) he (hs := hs)
def gTuple : D → (D → Prop) → Prop
  | .list ds, P => P (.tuple ds)
  | .tuple ds, P => P (.tuple ds)
  | _, _ => False
theorem mo_gTuple : Mo1 gTuple := fun x P P' k h => by cases x <;> first | exact h.elim | exact k _ h
theorem pd_tuple (hg : Gl X "tuple") (hm : X.mg "tuple" = none) (he : PO X C e te) (hs : starEach [e] X.env = (false, eval e X.env) :: starEach [] X.env := by rfl) : PD X C (.Call (.Name "tuple" p) [e] [] pos) (dUn gTuple te) :=
  pv_t1 call_tuple_of (fun {F O ρ σ H x v Q} R rx h => by
    cases x <;> first | exact h.elim | skip
    · obtain ⟨a, vs, e1, _, t1, r1⟩ := rx
      refine ⟨a, vs, by rw [e1], .inl ⟨SqL.of t1, fun p n => ?_⟩⟩
      obtain ⟨s, R', r⟩ := new_tup R r1 n
      exact h _ _ _ s R' r
    · obtain ⟨a, vs, e1, t1, r1⟩ := rx
      exact ⟨a, vs, by rw [e1], .inr ⟨t1, h _ _ _ (Stp.refl _ _ _) R ⟨a, vs, rfl, t1, r1⟩⟩⟩) mo_gTuple hg hm (by decide +kernel) he (hs := hs)
end
end DL

namespace DL
open PySem PySem.Spec PyProof.Rows L2

/-! ### statements -/
/-- what statements keep: the frozen, the tuples -/
structure FSt (F F' : Addr → Prop) (H H' : Hp) : Prop where
  up : ∀ a, F a → F' a
  fk : ∀ a o, F a → H a = some o → H' a = some o
  tk : ∀ a xs, H a = some (.tup xs) → H' a = some (.tup xs)
  zk : ∀ a o u, H a = some (.frz o u) → H' a = some (.frz o u)
theorem FSt.refl (F : Addr → Prop) (H : Hp) : FSt F F H H := ⟨fun _ h => h, fun _ _ _ h => h, fun _ _ h => h, fun _ _ _ h => h⟩
theorem FSt.trans {F F1 F2 : Addr → Prop} {H H1 H2 : Hp} (a : FSt F F1 H H1) (b : FSt F1 F2 H1 H2) : FSt F F2 H H2 :=
  ⟨fun c h => b.up c (a.up c h), fun c o h e => b.fk c o (a.up c h) (a.fk c o h e), fun c xs e => b.tk c xs (a.tk c xs e), fun c o u e => b.zk c o u (a.zk c o u e)⟩
section
variable {K : PySem.W.Frag} {q : Dq} {C : Ct} {F F' : Addr → Prop} {O : Fps} {ρ : List Slot} {σ : L2.St} {H H' : Hp} {d : D} {v : V} {ds : List D} {vs : List V}
theorem FSt.of (R : Rel K C F O ρ σ H) (s : Stp C.q F F' H H') : FSt F F' H H' := by
  obtain ⟨cells, m, n, h1, h2, _⟩ := R.dk
  have key : ∀ a o, H a = some o → (∀ kvs, o ≠ .dK kvs) → (∀ xs, o ≠ .lst xs) → (∀ ps, o ≠ .tbl ps) → H' a = some o := fun a o e n1 n2 n3 =>
    s.kp.kp a o e (fun z => by rw [z, h1] at e; exact n1 _ (Option.some.inj e).symm) (fun z => by rw [z, h2] at e; exact n2 _ (Option.some.inj e).symm) n3
  exact ⟨s.up, fun a o ha e => s.kp.kp a o e (R.fz a ha).1 (R.fz a ha).2.1 fun ps z => (R.fz a ha).2.2.2 ps (by rw [e, z]),
    fun a xs e => key a _ e (fun _ z => nomatch z) (fun _ z => nomatch z) (fun _ z => nomatch z), fun a o u e => key a _ e (fun _ z => nomatch z) (fun _ z => nomatch z) (fun _ z => nomatch z)⟩
theorem FSt.seq (s : FSt F F' H H') {a : Addr} {xs : List V} (h : SqT K H a xs) : SqT K H' a xs := by
  rcases h with (h | ⟨o, h⟩) | h
  · exact .inl (.inl (s.tk _ _ h))
  · exact .inl (.inr ⟨o, s.zk _ _ _ h⟩)
  · exact .inr h
theorem Rdd.fst (s : FSt F F' H H') (h : Rdd K F H d v) : Rdd K F' H' d v := Rdd.keep s.up (fun _ _ => s.seq) s.fk d v h
theorem RdL.fst (s : FSt F F' H H') (h : RdL K F H ds vs) : RdL K F' H' ds vs := RdL.keep s.up (fun _ _ => s.seq) s.fk ds vs h
end
structure EndsD where
  nx : List Slot → Prop
  rt : D → Prop
  bk : List Slot → Prop := fun _ => False
  ct : List Slot → Prop := fun _ => False
abbrev TSD := EndsD → List Slot → Prop
structure EndsD.Le (D D' : EndsD) : Prop where
  nx : ∀ ρ, D.nx ρ → D'.nx ρ
  rt : ∀ d, D.rt d → D'.rt d
  bk : ∀ ρ, D.bk ρ → D'.bk ρ
  ct : ∀ ρ, D.ct ρ → D'.ct ρ
def dEnds (K : PySem.W.Frag) (C : Ct) (F : Addr → Prop) (H : Hp) (D : Ends) : EndsD where
  nx := fun ρ' => ∀ F' O' σ' H', FSt F F' H H' → Rel K C F' O' ρ' σ' H' → D.nx σ' H'
  rt := fun d => ∀ v F' O' ρ' σ' H', FSt F F' H H' → Rel K C F' O' ρ' σ' H' → Rdd K F' H' d v → D.rt v H'
  bk := fun ρ' => ∀ F' O' σ' H', FSt F F' H H' → Rel K C F' O' ρ' σ' H' → D.bk σ' H'
  ct := fun ρ' => ∀ F' O' σ' H', FSt F F' H H' → Rel K C F' O' ρ' σ' H' → D.ct σ' H'
def liftS (K : PySem.W.Frag) (C : Ct) (t : TSD) : TS := fun D σ H => ∃ F O ρ, Rel K C F O ρ σ H ∧ t (dEnds K C F H D) ρ
theorem dEnds_le {K : PySem.W.Frag} {C : Ct} {F F1 : Addr → Prop} {H H1 : Hp} {D : Ends} (s : FSt F F1 H H1) : EndsD.Le (dEnds K C F H D) (dEnds K C F1 H1 D) :=
  ⟨fun ρ h F' O' σ' H' s' R => h F' O' σ' H' (s.trans s') R, fun d h v F' O' ρ' σ' H' s' R r => h v F' O' ρ' σ' H' (s.trans s') R r, fun ρ h F' O' σ' H' s' R => h F' O' σ' H' (s.trans s') R, fun ρ h F' O' σ' H' s' R => h F' O' σ' H' (s.trans s') R⟩
def MonoS (t : TSD) : Prop := ∀ D D' ρ, EndsD.Le D D' → t D ρ → t D' ρ
structure PSD (X : Cx) (C : Ct) (st : Stmt) (t : TSD) : Prop where
  mono : MonoS t
  run : PS X st (liftS X.K C t)
structure PSDs (X : Cx) (C : Ct) (sts : List Stmt) (t : TSD) : Prop where
  mono : MonoS t
  run : PSs X sts (liftS X.K C t)
theorem ps_imp {X : Cx} {st : Stmt} {t t' : TS} (h : PS X st t) (i : ∀ D σ H, t' D σ H → t D σ H) : PS X st t' := ⟨fun pins s σ H D I q => h.run pins s σ H D I (i D σ H q)⟩
theorem pss_imp {X : Cx} {st : List Stmt} {t t' : TS} (h : PSs X st t) (i : ∀ D σ H, t' D σ H → t D σ H) : PSs X st t' := ⟨fun pins s σ H D I q => h.run pins s σ H D I (i D σ H q)⟩
def sNext : TSD := fun D ρ => D.nx ρ
def sSeq (t u : TSD) : TSD := fun D ρ => t { D with nx := u D } ρ
def sBreak : TSD := fun D ρ => D.bk ρ
def sCont : TSD := fun D ρ => D.ct ρ
def sRet (te : TED) : TSD := fun D ρ => te ρ D.rt
def sRetN : TSD := fun D _ => D.rt .none
def sDrop (te : TED) : TSD := fun D ρ => te ρ fun _ => D.nx ρ
def sIf (c : TTD) (t u : TSD) : TSD := fun D ρ => c ρ fun b => if b = true then t D ρ else u D ρ
def sSet (i : Nat) (te : TED) : TSD := fun D ρ => te ρ fun d => D.nx (ρ.set i (.val d))
def sSetF (i : Nat) (te : TED) : TSD := fun D ρ => te ρ fun d => match d with
  | .list ds => D.nx (ρ.set i (.own ds))
  | _ => False
section
variable {X : Cx} {C : Ct} {st : Stmt} {rest sts sts' : List Stmt} {t u : TSD} {e c : Expr} {te : TED} {tc : TTD} {pos : Pos}
theorem pssd_nil : PSDs X C [] sNext := ⟨fun D D' ρ l h => l.nx _ h, pss_imp pss_nil fun D σ H ⟨F, O, ρ, R, q⟩ => q F O σ H (FSt.refl _ _) R⟩
theorem pssd_cons (h1 : PSD X C st t) (h2 : PSDs X C rest u) : PSDs X C (st :: rest) (sSeq t u) :=
  ⟨fun D D' ρ l h => h1.mono { D with nx := u D } _ _ ⟨fun ρ' => h2.mono _ _ _ l, l.rt, l.bk, l.ct⟩ h, pss_imp (pss_cons h1.run h2.run) fun D σ H ⟨F, O, ρ, R, q⟩ =>
    ⟨F, O, ρ, R, h1.mono { dEnds X.K C F H D with nx := u (dEnds X.K C F H D) } _ _ ⟨fun ρ' k F' O' σ' H' s R' => ⟨F', O', ρ', R', h2.mono _ _ _ (dEnds_le s) k⟩, fun _ k => k, fun _ k => k, fun _ k => k⟩ q⟩⟩
theorem pssd_one (h1 : PSD X C st t) : PSDs X C [st] t := ⟨h1.mono, pss_one h1.run⟩
theorem psd_break : PSD X C (.Break pos) sBreak := ⟨fun D D' ρ l h => l.bk _ h, ps_imp ps_break fun D σ H ⟨F, O, ρ, R, q⟩ => q F O σ H (FSt.refl _ _) R⟩
theorem psd_cont : PSD X C (.Continue pos) sCont := ⟨fun D D' ρ l h => l.ct _ h, ps_imp ps_continue fun D σ H ⟨F, O, ρ, R, q⟩ => q F O σ H (FSt.refl _ _) R⟩
theorem psd_pass : PSD X C (.Pass pos) sNext := ⟨fun D D' ρ l h => l.nx _ h, ps_imp ps_pass fun D σ H ⟨F, O, ρ, R, q⟩ => q F O σ H (FSt.refl _ _) R⟩
theorem psd_ret (h : PD X C e te) : PSD X C (.Return (some e) pos) (sRet te) := ⟨fun D D' ρ l => h.mono _ _ _ l.rt, ps_imp (ps_ret h.run) fun D σ H ⟨F, O, ρ, R, q⟩ => ⟨F, O, ρ, R, h.mono _ _ _ (fun d k v H' F' s R' r => k v F' O ρ σ H' (FSt.of R s) R' r) q⟩⟩
theorem psd_retN : PSD X C (.Return none pos) sRetN := ⟨fun D D' ρ l => l.rt _, ps_imp ps_retN fun D σ H ⟨F, O, ρ, R, q⟩ => q _ F O ρ σ H (FSt.refl _ _) R rfl⟩
theorem psd_expr (h : PD X C e te) (hs : swapsWith e none pos.line X.env = pure false := by rfl) : PSD X C (.Expr e pos) (sDrop te) := ⟨fun D D' ρ l => h.mono _ _ _ fun _ => l.nx _, ps_imp (ps_expr h.run hs) fun D σ H ⟨F, O, ρ, R, q⟩ => ⟨F, O, ρ, R, h.mono _ _ _ (fun d k v H' F' s R' r => k F' O σ H' (FSt.of R s) R') q⟩⟩
theorem psd_if (hc : DT X C c tc) (ha : PSDs X C sts t) (hb : PSDs X C sts' u) : PSD X C (.If c sts sts' pos) (sIf tc t u) :=
  ⟨fun D D' ρ l => hc.mono _ _ _ fun b h => mono_ite h (ha.mono _ _ _ l) (hb.mono _ _ _ l), ps_imp (ps_if hc.run ha.run hb.run) fun D σ H ⟨F, O, ρ, R, q⟩ => ⟨F, O, ρ, R, hc.mono _ _ _ (fun b k H' F' s R' =>
    mono_ite k (fun k => ⟨F', O, ρ, R', ha.mono _ _ _ (dEnds_le (FSt.of R s)) k⟩) fun k => ⟨F', O, ρ, R', hb.mono _ _ _ (dEnds_le (FSt.of R s)) k⟩) q⟩⟩
theorem psd_never : PSD X C st fun _ _ => False := ⟨fun _ _ _ _ h => h, ps_imp ps_never fun D σ H ⟨F, O, ρ, R, q⟩ => q⟩
end

/-! ### stores -/
section
variable {K : PySem.W.Frag} {C : Ct} {F F' : Addr → Prop} {O : Fps} {ρ : List Slot} {σ : L2.St} {H H' : Hp} {d : D} {v : V} {ds : List D} {vs : List V}
theorem get_set {α : Type} {l : List α} {i j : Nat} {x y : α} (h : (l.set i x)[j]? = some y) : (j = i ∧ i < l.length ∧ y = x) ∨ (j ≠ i ∧ l[j]? = some y) := by
  by_cases e : i = j
  · subst e
    by_cases hl : i < l.length
    · rw [List.getElem?_set_self hl] at h
      exact .inl ⟨rfl, hl, (Option.some.inj h).symm⟩
    · rw [List.getElem?_eq_none (by simpa using Nat.le_of_not_lt hl)] at h
      cases h
  · rw [List.getElem?_set_ne e] at h
    exact .inr ⟨Ne.symm e, h⟩
/-- a slot takes a frozen thing -/
theorem Rel.setV (R : Rel K C F O ρ σ H) (i : Nat) (r : Rdd K F H d v) : Rel K C F O (ρ.set i (.val d)) (σ.set i (some v)) H where
  ln := by rw [List.length_set, List.length_set]; exact R.ln
  dk := R.dk
  tb := R.tb
  fz := R.fz
  kp := R.kp
  up := R.up
  nw := R.nw
  sl := fun j s e => by
    rcases get_set e with ⟨rfl, hl, rfl⟩ | ⟨hj, e⟩
    · exact ⟨v, by rw [List.getElem?_set_self (Nat.lt_of_lt_of_le hl R.ln)], r⟩
    · rw [List.getElem?_set_ne (Ne.symm hj)]
      exact R.sl j s e
  oo := R.oo
  dj := R.dj
theorem Rel.setRaw (R : Rel K C F O ρ σ H) (i : Nat) : Rel K C F O (ρ.set i (.raw v)) (σ.set i (some v)) H where
  ln := by rw [List.length_set, List.length_set]; exact R.ln
  dk := R.dk
  tb := R.tb
  fz := R.fz
  kp := R.kp
  up := R.up
  nw := R.nw
  sl := fun j s e => by
    rcases get_set e with ⟨rfl, hl, rfl⟩ | ⟨hj, e⟩
    · show (σ.set j (some v))[j]? = _
      rw [List.getElem?_set_self (Nat.lt_of_lt_of_le hl R.ln)]
    · rw [List.getElem?_set_ne (Ne.symm hj)]
      exact R.sl j s e
  oo := R.oo
  dj := R.dj
theorem Rel.setU (R : Rel K C F O ρ σ H) (i : Nat) (o : Option V) : Rel K C F O (ρ.set i .un) (σ.set i o) H where
  ln := by rw [List.length_set, List.length_set]; exact R.ln
  dk := R.dk
  tb := R.tb
  fz := R.fz
  kp := R.kp
  up := R.up
  nw := R.nw
  sl := fun j s e => by
    rcases get_set e with ⟨rfl, hl, rfl⟩ | ⟨hj, e⟩
    · exact True.intro
    · rw [List.getElem?_set_ne (Ne.symm hj)]
      exact R.sl j s e
  oo := R.oo
  dj := R.dj
def putO (O : Fps) (i : Nat) (l : List Addr) : Fps := fun j => if j = i then l else O j
/-- a slot takes a fresh list as its own -/
theorem Rel.setF (R : Rel K C F O ρ σ H) (i : Nat) {a : Addr} (h1 : ¬ F a) (h2 : ∀ j, a ∉ O j) (n1 : a ≠ C.q.p) (n2 : a ≠ C.q.l) (n3 : Nn C.H0 a) (hl : H a = some (.lst vs)) (r : RdL K F H ds vs) :
    Rel K C F (putO O i [a]) (ρ.set i (.own ds)) (σ.set i (some (.ref a))) H where
  ln := by rw [List.length_set, List.length_set]; exact R.ln
  dk := R.dk
  tb := R.tb
  fz := R.fz
  kp := R.kp
  up := R.up
  nw := R.nw
  sl := fun j s e => by
    rcases get_set e with ⟨rfl, hlt, rfl⟩ | ⟨hj, e⟩
    · refine ⟨a, vs, by rw [List.getElem?_set_self (Nat.lt_of_lt_of_le hlt R.ln)], ?_, hl, r⟩
      unfold putO
      rw [if_pos rfl]
      exact List.mem_singleton.mpr rfl
    · rw [List.getElem?_set_ne (Ne.symm hj)]
      have : putO O i [a] j = O j := if_neg hj
      rw [this]
      exact R.sl j s e
  oo := fun j b hb => by
    by_cases e : j = i
    · unfold putO at hb
      rw [if_pos e] at hb
      rw [List.mem_singleton.mp hb]
      exact ⟨h1, n1, n2, n3, by rw [hl]; simp, fun ps z => by rw [hl] at z; cases z⟩
    · unfold putO at hb
      rw [if_neg e] at hb
      exact R.oo j b hb
  dj := fun j k hjk b hb hb' => by
    unfold putO at hb hb'
    by_cases e : j = i
    · rw [if_pos e] at hb
      rw [if_neg (fun z => hjk (e.trans z.symm)), List.mem_singleton.mp hb] at hb'
      exact h2 k hb'
    · rw [if_neg e] at hb
      by_cases e' : k = i
      · rw [if_pos e', ] at hb'
        rw [List.mem_singleton.mp hb'] at hb
        exact h2 j hb
      · rw [if_neg e'] at hb'
        exact R.dj j k hjk b hb hb'
end
section
variable {X : Cx} {C : Ct} {i : Nat} {x : Str} {e : Expr} {te : TED} {pos pos' : Pos}
theorem psd_set (i : Nat) (hN : X.N.Nodup) (he : PD X C e te) (hi : X.N[i]? = some x := by rfl) (hx : Loc X.env.scope x := by first | exact Or.inl rfl | exact Or.inr rfl) (hs : swapsWith e (some (.Name x pos')) pos.line X.env = pure false := by rfl)
    (hf : X.fn x = true ∨ X.env.scope.names.lookup x = some .local := by first | exact .inl rfl | exact .inr rfl | assumption) : PSD X C (.Assign [.Name x pos'] e pos) (sSet i te) :=
  ⟨fun D D' ρ l => he.mono _ _ _ fun d => l.nx _, ps_imp (ps_set hN hi hx he.run hs hf) fun D σ H ⟨F, O, ρ, R, q⟩ => ⟨F, O, ρ, R, he.mono _ _ _ (fun d k v H' F' s R' r => k F' O _ H' (FSt.of R s) (R'.setV i r)) q⟩⟩
theorem psd_setF (i : Nat) (hN : X.N.Nodup) (he : PF X C e te) (hi : X.N[i]? = some x := by rfl) (hx : Loc X.env.scope x := by first | exact Or.inl rfl | exact Or.inr rfl) (hs : swapsWith e (some (.Name x pos')) pos.line X.env = pure false := by rfl)
    (hf : X.fn x = true ∨ X.env.scope.names.lookup x = some .local := by first | exact .inl rfl | exact .inr rfl | assumption) : PSD X C (.Assign [.Name x pos'] e pos) (sSetF i te) :=
  ⟨fun D D' ρ l => he.mono _ _ _ fun d h => by cases d <;> first | exact l.nx _ h | exact h.elim, ps_imp (ps_set hN hi hx he.run hs hf) fun D σ H ⟨F, O, ρ, R, q⟩ => ⟨F, O, ρ, R, he.mono _ _ _ (fun d k v H' F' s R' r => by
    cases d <;> first | exact r.elim | skip
    obtain ⟨a, vs, ea, n, h1, h2, h3, h4⟩ := r
    subst ea
    obtain ⟨n1, n2, n3, _, _⟩ := R.np n
    exact k F' _ _ H' (FSt.of R s) (R'.setF i h1 h2 n1 n2 n3 h3 h4)) q⟩⟩
end
end DL

namespace DL
open PySem PySem.Spec PyProof.Rows L2

/-! ### a cell is written that is not frozen -/
section
variable {K : PySem.W.Frag} {q : Dq} {C : Ct} {F F' : Addr → Prop} {O : Fps} {ρ : List Slot} {σ : L2.St} {H H' : Hp} {d : D} {v : V} {ds : List D} {vs : List V}
def Loose (u : HO) : Prop := (∃ xs, u = .lst xs) ∨ ∃ kvs, u = .dK kvs
theorem wr_tk {a : Addr} {o u : HO} (ho : H a = some o) (lo : Loose o) {b : Addr} {w : HO} (e : H b = some w) (nw : ¬ Loose w) : upd H a u b = some w := by
  refine (upd_ne fun z => ?_).trans e
  rw [z, ho] at e
  cases e
  exact nw lo
theorem FSt.wr {a : Addr} {o u : HO} (ho : H a = some o) (lo : Loose o) (nf : ¬ F a) : FSt F F H (upd H a u) :=
  ⟨fun _ h => h, fun b w hb e => (upd_ne fun (z : b = a) => nf (z ▸ hb)).trans e, fun b xs e => wr_tk ho lo e (by rintro (⟨_, z⟩ | ⟨_, z⟩) <;> cases z), fun b o u e => wr_tk ho lo e (by rintro (⟨_, z⟩ | ⟨_, z⟩) <;> cases z)⟩
theorem Tabs.wr {T : List (Addr × Str)} (ht : LamX.Tabs T H) {a : Addr} {o u : HO} (ho : H a = some o) (lo : Loose o) : LamX.Tabs T (upd H a u) := fun p hp => by
  obtain ⟨ps, h1, h2, h3⟩ := ht p hp
  refine ⟨ps, wr_tk ho lo h1 (by rintro (⟨_, z⟩ | ⟨_, z⟩) <;> cases z), h2, fun pos cv hc => ?_⟩
  obtain ⟨c, e1, e2⟩ := h3 pos cv hc
  exact ⟨c, e1, wr_tk ho lo e2 (by rintro (⟨_, z⟩ | ⟨_, z⟩) <;> (unfold LamX.CodeO at z; cases z))⟩
/-- what stands elsewhere stays -/
theorem SlotOk.wr {i : Nat} {s : Slot} {x : Option (Option V)} {a : Addr} {o u : HO} {p : Addr} {l : List Addr} (ho : H a = some o) (lo : Loose o) (nf : ¬ F a) (na : a ∉ l) (h : SlotOk K p F H l s x) : SlotOk K p F (upd H a u) l s x := by
  cases s with
  | un => exact True.intro
  | val d => obtain ⟨v, e, r⟩ := h; exact ⟨v, e, r.fst (FSt.wr ho lo nf)⟩
  | raw v => exact h
  | deck => exact h
  | own ds => obtain ⟨b, vs, e, hb, hl, r⟩ := h; exact ⟨b, vs, e, hb, (upd_ne fun (z : b = a) => na (z ▸ hb)).trans hl, r.fst (FSt.wr ho lo nf)⟩
  | own2 rows =>
    obtain ⟨b, as, e, hb, hc, nd, hl, r⟩ := h
    exact ⟨b, as, e, hb, hc, nd, (upd_ne fun (z : b = a) => na (z ▸ hb)).trans hl, RowsR.keep (fun _ _ q => q.fst (FSt.wr ho lo nf)) as rows (fun c hm vs q => (upd_ne fun (z : c = a) => na (z ▸ hc c hm)).trans q) r⟩
theorem Rel.wr0 (R : Rel K C F O ρ σ H) {a : Addr} {o u : HO} (ho : H a = some o) (lo : Loose o) (lu : Loose u) (nf : ¬ F a) (n1 : a ≠ C.q.p) (n2 : a ≠ C.q.l) (n3 : Nn C.H0 a)
    (hs : ∀ i s, ρ[i]? = some s → SlotOk K C.q.p F (upd H a u) (O i) s (σ[i]?)) : Rel K C F O ρ σ (upd H a u) where
  ln := R.ln
  dk := by
    obtain ⟨cells, m, k, h1, h2, h3, ob, φ, h4⟩ := R.dk
    exact ⟨cells, m, k, (upd_ne (Ne.symm n1)).trans h1, (upd_ne (Ne.symm n2)).trans h2, h3, ob, φ, wr_tk ho lo h4 (by rintro (⟨_, z⟩ | ⟨_, z⟩) <;> cases z)⟩
  tb := Tabs.wr R.tb ho lo
  fz := fun b hb => by
    rw [upd_ne fun (z : b = a) => nf (z ▸ hb)]
    exact R.fz b hb
  kp := ⟨fun b w e h1 h2 h3 => (upd_ne fun z => n3.no (by rw [← z]; exact e) h3).trans (R.kp.kp b w e h1 h2 h3), fun b w e h => by
    by_cases z : b = a
    · exact absurd (n3.no (by rw [← z]; exact e) h) id
    · rw [upd_ne z]; exact R.kp.th b w e h⟩
  up := R.up
  nw := R.nw
  sl := hs
  oo := fun i b hb => by
    obtain ⟨h0, h1, h2, h3, h4, h5⟩ := R.oo i b hb
    refine ⟨h0, h1, h2, h3, ?_, fun ps z => ?_⟩
    · by_cases z : b = a
      · rw [z, upd_same]; simp
      · rw [upd_ne z]; exact h4
    · by_cases y : b = a
      · rw [y, upd_same] at z
        rcases lu with ⟨_, e⟩ | ⟨_, e⟩ <;> rw [e] at z <;> cases z
      · rw [upd_ne y] at z
        exact h5 ps z
  dj := R.dj
/-- a loose cell is written -/
theorem Rel.wr (R : Rel K C F O ρ σ H) {a : Addr} {o u : HO} (ho : H a = some o) (lo : Loose o) (lu : Loose u) (nf : ¬ F a) (n1 : a ≠ C.q.p) (n2 : a ≠ C.q.l) (n3 : Nn C.H0 a) (no : ∀ i, a ∉ O i) : Rel K C F O ρ σ (upd H a u) :=
  R.wr0 ho lo lu nf n1 n2 n3 fun i s e => (R.sl i s e).wr (i := i) ho lo nf (no i)
/-- an own list is written -/
theorem Rel.wrOwn (R : Rel K C F O ρ σ H) {i : Nat} {a : Addr} {xs : List V} {ds' : List D} {vs' : List V} (hi : ρ[i]? = some (.own ds)) (hσ : σ[i]? = some (some (.ref a))) (ha : a ∈ O i) (hl : H a = some (.lst xs)) (r : RdL K F H ds' vs') :
    Rel K C F O (ρ.set i (.own ds')) σ (upd H a (.lst vs')) := by
  obtain ⟨nf, n1, n2, n3, _, _⟩ := R.oo i a ha
  have lo : Loose (.lst xs) := .inl ⟨_, rfl⟩
  have R' : Rel K C F O (ρ.set i .un) σ H := by
    refine ⟨by rw [List.length_set]; exact R.ln, R.dk, R.tb, R.fz, R.kp, R.up, R.nw, fun j s e => ?_, R.oo, R.dj⟩
    rcases get_set e with ⟨rfl, _, rfl⟩ | ⟨_, e⟩
    · exact True.intro
    · exact R.sl j s e
  have R2 : Rel K C F O (ρ.set i .un) σ (upd H a (.lst vs')) := R'.wr0 hl lo (.inl ⟨_, rfl⟩) nf n1 n2 n3 fun j s e => by
    rcases get_set e with ⟨rfl, _, rfl⟩ | ⟨hj, e⟩
    · exact True.intro
    · exact (R.sl j s e).wr (i := j) hl lo nf fun z => R.dj i j (Ne.symm hj) a ha z
  refine ⟨by rw [List.length_set]; exact R.ln, R2.dk, R2.tb, R2.fz, R2.kp, R2.up, R2.nw, fun j s e => ?_, R2.oo, R2.dj⟩
  rcases get_set e with ⟨rfl, _, rfl⟩ | ⟨hj, e⟩
  · exact ⟨a, vs', hσ, ha, upd_same, r.fst (FSt.wr hl lo nf)⟩
  · exact R2.sl j s (by rw [List.getElem?_set_ne (Ne.symm hj)]; exact e)
/-- an own list becomes a frozen one -/
theorem Rel.freezeOwn (R : Rel K C F O ρ σ H) {i : Nat} (hi : ρ[i]? = some (.own ds)) : ∃ F' O', FSt F F' H H ∧ Rel K C F' O' (ρ.set i (.val (.list ds))) σ H := by
  obtain ⟨a, vs, e, ha, hl, r⟩ := R.sl i _ hi
  obtain ⟨nf, n1, n2, n3, n4, n5⟩ := R.oo i a ha
  have R1 : Rel K C F (putO O i []) (ρ.set i .un) σ H := by
    refine ⟨by rw [List.length_set]; exact R.ln, R.dk, R.tb, R.fz, R.kp, R.up, R.nw, fun j s e => ?_, fun j b hb => ?_, fun j k hjk b hb hb' => ?_⟩
    · rcases get_set e with ⟨rfl, _, rfl⟩ | ⟨hj, e⟩
      · exact True.intro
      · have : putO O i [] j = O j := if_neg hj
        rw [this]
        exact R.sl j s e
    · unfold putO at hb
      split at hb
      · cases hb
      · exact R.oo j b hb
    · unfold putO at hb hb'
      split at hb
      · cases hb
      · split at hb'
        · cases hb'
        · exact R.dj j k hjk b hb hb'
  have no : ∀ j, a ∉ putO O i [] j := fun j z => by
    unfold putO at z
    split at z
    · cases z
    · rename_i hj
      exact R.dj i j (Ne.symm hj) a ha z
  have R2 := R1.freeze n1 n2 n3 n4 n5 no
  refine ⟨fun b => F b ∨ b = a, putO O i [], ⟨fun b h => Or.inl h, fun _ _ _ h => h, fun _ _ h => h, fun _ _ _ h => h⟩, ?_⟩
  refine ⟨by rw [List.length_set]; exact R.ln, R2.dk, R2.tb, R2.fz, R2.kp, R2.up, R2.nw, fun j s e' => ?_, R2.oo, R2.dj⟩
  rcases get_set e' with ⟨rfl, _, rfl⟩ | ⟨hj, e'⟩
  · exact ⟨_, e, a, vs, rfl, .inr rfl, hl, RdL.keep (fun b => Or.inl) (fun _ _ z => z) (fun _ _ _ z => z) _ _ r⟩
  · exact R2.sl j s (by rw [List.getElem?_set_ne (Ne.symm hj)]; exact e')
end
/-! ### own lists: append, a store, freezing -/
def sAppend (i : Nat) (te : TED) : TSD := fun D ρ => match ρ[i]? with
  | some (.own ds) => te ρ fun d => ds.length < sizeLine ∧ D.nx (ρ.set i (.own (ds ++ [d])))
  | _ => False
def sStore (i : Nat) (te tk : TED) : TSD := fun D ρ => match ρ[i]? with
  | some (.own ds) => te ρ fun d => tk ρ fun k => isI k fun k => ∃ j, ixN ds.length k = some j ∧ D.nx (ρ.set i (.own (ds.set j d)))
  | _ => False
def sFreeze (i : Nat) (t : TSD) : TSD := fun D ρ => match ρ[i]? with
  | some (.own ds) => t D (ρ.set i (.val (.list ds)))
  | _ => False
theorem mono_isI {d : D} {P P' : Int → Prop} (k : ∀ b, P b → P' b) (h : isI d P) : isI d P' := by
  cases d <;> first | exact k _ h | exact h.elim
theorem rdd_isI {K : PySem.W.Frag} {F : Addr → Prop} {H : Hp} {d : D} {v : V} {P : Int → Prop} (r : Rdd K F H d v) (h : isI d P) : ∃ b, v = .int b ∧ P b := by
  cases d <;> first | exact ⟨_, r, h⟩ | exact h.elim
section
variable {X : Cx} {C : Ct} {i : Nat} {x : Str} {e ek : Expr} {te tk : TED} {t : TSD} {sts : List Stmt} {pos p p2 p3 : Pos}
/-- own[k] = e -/
theorem psd_store (i : Nat) (he : PD X C e te) (hk : PD X C ek tk) (hN : X.N[i]? = some x := by rfl) (hv : Vis X.env.scope x := by first | exact Or.inl rfl | exact Or.inr (Or.inl rfl) | exact Or.inr (Or.inr rfl)) (hd : (x == ("__debug__" : Str)) = false := by decide)
    (hcd : (x == ("__classdict__" : Str)) = false := by decide)
    (ha : ∀ v, assign (.Subscript (.Name x p) ek p2) X.env v = (do
      let ov ← holding [v] (eval (.Name x p) X.env)
      let iv ← holding [v, ov] (eval ek X.env)
      standAt p2
      holding [v, ov, iv] (setItem ov iv v)
      release [v, ov, iv] []) := by intro _; rfl)
    (hs : swapsWithSole [.Subscript (.Name x p) ek p2] e pos.line X.env = pure false := by rfl) (hw : swappedStores [.Subscript (.Name x p) ek p2] e X.env = pure none := by rfl)
    (h1 : (assignEach [.Subscript (.Name x p) ek p2] X.env).map (·.2) = [assign (.Subscript (.Name x p) ek p2) X.env] := by rfl) :
    PSD X C (.Assign [.Subscript (.Name x p) ek p2] e pos) (sStore i te tk) := by
  refine ⟨fun D D' ρ l h => ?_, ps_imp (ps_asg he.run (pg_sub (pe_var hN hv hd hcd) hk.run set_list ha) hs hw h1) fun D σ H ⟨F, O, ρ, R, q⟩ => ?_⟩
  · unfold sStore at h ⊢
    split at h
    · exact he.mono _ _ _ (fun d h => hk.mono _ _ _ (fun k h => mono_isI (fun k ⟨j, h1, h2⟩ => ⟨j, h1, l.nx _ h2⟩) h) h) h
    · exact h.elim
  · unfold sStore at q
    split at q
    · rename_i ds es
      obtain ⟨a, vs, e1, ha, hl, r⟩ := R.sl i _ es
      refine ⟨F, O, ρ, R, he.mono _ _ _ (fun d k v H1 F1 s1 R1 r1 => ?_) q⟩
      refine ⟨.ref a, e1, F1, O, ρ, R1, hk.mono _ _ _ (fun kd k2 u H2 F2 s2 R2 r2 => ?_) k⟩
      obtain ⟨n, rfl, j, hj, k3⟩ := rdd_isI r2 k2
      obtain ⟨a', vs1, e1', ha', hl', r'⟩ := R2.sl i _ es
      have ea : a' = a := by rw [e1] at e1'; cases e1'; rfl
      subst ea
      refine ⟨a', vs1, n, j, rfl, rfl, hl', by rw [r'.len]; exact hj, ?_⟩
      exact k3 F2 O σ _ ((FSt.of R s1).trans (FSt.of R1 s2) |>.trans (FSt.wr hl' (.inl ⟨_, rfl⟩) (R2.oo i a' ha').1)) (R2.wrOwn es e1' ha' hl' (r'.set j (r1.stpR R1 s2)))
    · exact q.elim
/-- an own list is own no more -/
theorem pssd_freeze (i : Nat) (h : PSDs X C sts t) : PSDs X C sts (sFreeze i t) := by
  refine ⟨fun D D' ρ l k => ?_, pss_imp h.run fun D σ H ⟨F, O, ρ, R, q⟩ => ?_⟩
  · unfold sFreeze at k ⊢
    split at k
    · exact h.mono _ _ _ l k
    · exact k.elim
  · unfold sFreeze at q
    split at q
    · rename_i ds es
      obtain ⟨F', O', s, R'⟩ := R.freezeOwn es
      exact ⟨F', O', _, R', h.mono _ _ _ (dEnds_le s) q⟩
    · exact q.elim
theorem psd_append (i : Nat) (he : PD X C e te) (hN : X.N[i]? = some x := by rfl) (hv : Vis X.env.scope x := by first | exact Or.inl rfl | exact Or.inr (Or.inl rfl) | exact Or.inr (Or.inr rfl)) (hd : (x == ("__debug__" : Str)) = false := by decide)
    (hcd : (x == ("__classdict__" : Str)) = false := by decide)
    (hbase : attributeBase (.Name x p) "append" X.env (eval (.Name x p) X.env) = eval (.Name x p) X.env := by rfl)
    (hfew : ((backTo p3 (starEach [e] X.env)).all (fun x => !x.1) && (backToKw p3 (keywordEach [] X.env)).all (fun x => x.1.isSome)
      && decide (([e] : List Expr).length + ([] : List Keyword).length + (if ([] : List Keyword).isEmpty then 0 else 1) < 30)) = true := by rfl)
    (hline : (p2.endLine == p3.line) = true := by rfl) (hs : starEach [e] X.env = (false, eval e X.env) :: starEach [] X.env := by rfl) (hsw : swapsWith (.Call (.Attribute (.Name x p) "append" p2) [e] [] p3) none pos.line X.env = pure false := by rfl) :
    PSD X C (.Expr (.Call (.Attribute (.Name x p) "append" p2) [e] [] p3) pos) (sAppend i te) := by
  refine ⟨fun D D' ρ l h => ?_, ps_imp (ps_expr (pe_bm PySem.F.plainAttrs_list PySem.F.slot_list_append PySem.F.type_list_append mt_append (pe_var hN hv hd hcd) (pa_cons he.run pa_nil hs) hbase hfew hline hs (by rfl)) hsw) fun D σ H ⟨F, O, ρ, R, q⟩ => ?_⟩
  · unfold sAppend at h ⊢
    split at h
    · exact he.mono _ _ _ (fun d h => ⟨h.1, l.nx _ h.2⟩) h
    · exact h.elim
  · unfold sAppend at q
    split at q
    · rename_i ds es
      obtain ⟨a, vs, e1, ha, hl, r⟩ := R.sl i _ es
      refine ⟨.ref a, e1, .inl ⟨rfl, vs, SqL.of hl⟩, F, O, ρ, R, he.mono _ _ _ (fun d k v H1 F1 s1 R1 r1 => ?_) q⟩
      obtain ⟨a', vs1, e1', ha', hl', r'⟩ := R1.sl i _ es
      have ea : a' = a := by rw [e1] at e1'; cases e1'; rfl
      subst ea
      refine ⟨a', vs1, v, rfl, rfl, hl', by rw [r'.len]; exact k.1, ?_⟩
      exact k.2 F1 O σ _ (FSt.of R s1 |>.trans (FSt.wr hl' (.inl ⟨_, rfl⟩) (R1.oo i a' ha').1)) (R1.wrOwn es e1' ha' hl' (r'.append ⟨v, [], rfl, r1, rfl⟩))
    · exact q.elim
end
end DL

namespace DL
open PySem PySem.Spec PyProof.Rows L2

/-! ### targets: a name, a tuple of names -/
inductive Tgt where
  | nm (i : Nat)
  | tup (is : List Nat)
def gNames : List Nat → TGs
  | [] => gNil
  | i :: is => gCons (gName i) (gNames is)
def gTgt (K : PySem.W.Frag) : Tgt → TG
  | .nm i => gName i
  | .tup is => gTup K is.length (gNames is)
def putAll : List Slot → List Nat → List D → List Slot
  | ρ, i :: is, d :: ds => putAll (ρ.set i (.val d)) is ds
  | ρ, _, _ => ρ
def bindT : Tgt → D → List Slot → (List Slot → Prop) → Prop
  | .nm i, d, ρ, P => P (ρ.set i (.val d))
  | .tup is, .tuple ds, ρ, P => ds.length = is.length ∧ P (putAll ρ is ds)
  | _, _, _, _ => False
def Tgt.ixs : Tgt → List Nat
  | .nm i => [i]
  | .tup is => is
theorem mono_bindT {t : Tgt} {d : D} {ρ : List Slot} {P P' : List Slot → Prop} (k : ∀ ρ, P ρ → P' ρ) (h : bindT t d ρ P) : bindT t d ρ P' := by
  cases t with
  | nm i => exact k _ h
  | tup is => cases d <;> first | exact h.elim | exact ⟨h.1, k _ h.2⟩
/-- σ' is σ but at those places -/
def But (is : List Nat) (σ σ' : L2.St) : Prop := σ'.length = σ.length ∧ ∀ j, j ∉ is → σ'[j]? = σ[j]?
theorem But.wipe {σ σ' : L2.St} {is : List Nat} (h : But is σ σ') (vs : List Nat) (hv : ∀ i ∈ is, i ∈ vs) : wipe σ' vs = wipe σ vs := by
  have key : ∀ (ws : List Nat) (j : Nat), (L2.wipe σ' ws)[j]? = if j ∈ ws ∧ j < σ'.length then some none else σ'[j]? := by
    intro ws
    induction ws with
    | nil => intro j; simp [L2.wipe]
    | cons w ws ih =>
      intro j
      unfold L2.wipe
      by_cases e : w = j
      · subst e
        by_cases hl : w < σ'.length
        · rw [List.getElem?_set_self (by rw [wipe_length]; exact hl)]; simp [hl]
        · rw [List.getElem?_eq_none (by rw [List.length_set, wipe_length]; omega)]
          rw [if_neg (by simp [hl]), List.getElem?_eq_none (by omega)]
      · rw [List.getElem?_set_ne e, ih]
        have : j ∈ w :: ws ↔ j ∈ ws := by simp [Ne.symm e]
        simp only [this]
  have key2 : ∀ (ws : List Nat) (j : Nat), (L2.wipe σ ws)[j]? = if j ∈ ws ∧ j < σ.length then some none else σ[j]? := by
    intro ws
    induction ws with
    | nil => intro j; simp [L2.wipe]
    | cons w ws ih =>
      intro j
      unfold L2.wipe
      by_cases e : w = j
      · subst e
        by_cases hl : w < σ.length
        · rw [List.getElem?_set_self (by rw [wipe_length]; exact hl)]; simp [hl]
        · rw [List.getElem?_eq_none (by rw [List.length_set, wipe_length]; omega)]
          rw [if_neg (by simp [hl]), List.getElem?_eq_none (by omega)]
      · rw [List.getElem?_set_ne e, ih]
        have : j ∈ w :: ws ↔ j ∈ ws := by simp [Ne.symm e]
        simp only [this]
  apply List.ext_getElem?
  intro j
  rw [key, key2, h.1]
  by_cases hj : j ∈ vs
  · by_cases hl : j < σ.length
    · simp [hj, hl]
    · rw [if_neg (by simp [hl]), if_neg (by simp [hl]), List.getElem?_eq_none (by rw [h.1]; omega), List.getElem?_eq_none (by omega)]
  · rw [if_neg (by simp [hj]), if_neg (by simp [hj]), h.2 j fun z => hj (hv j z)]
section
variable {K : PySem.W.Frag} {C : Ct} {F : Addr → Prop} {O : Fps} {ρ : List Slot} {σ : L2.St} {H : Hp} {d : D} {v : V}
theorem names_do (is : List Nat) : ∀ (ds : List D) (vs : List V) (ρ : List Slot) (σ : L2.St), Rel K C F O ρ σ H → RdL K F H ds vs → ds.length = is.length → ∀ {Q : L2.St → Hp → Prop},
    (∀ σ', But is σ σ' → Rel K C F O (putAll ρ is ds) σ' H → Q σ' H) → gNames is vs σ H Q := by
  induction is with
  | nil =>
    intro ds vs ρ σ R r hl Q k
    cases ds with
    | nil => exact ⟨r, k σ ⟨rfl, fun _ _ => rfl⟩ R⟩
    | cons d ds => cases hl
  | cons i is ih =>
    intro ds vs ρ σ R r hl Q k
    cases ds with
    | nil => cases hl
    | cons d ds =>
      obtain ⟨v, rest, e, r1, r2⟩ := r
      refine ⟨v, rest, e, ?_⟩
      refine ih ds rest (ρ.set i (.val d)) (σ.set i (some v)) (R.setV i r1) r2 (by simpa using hl) fun σ' b R' => k σ' ⟨by rw [b.1, List.length_set], fun j hj => ?_⟩ R'
      rw [b.2 j (fun z => hj (List.mem_cons_of_mem _ z)), List.getElem?_set_ne (fun (z : i = j) => hj (z ▸ List.mem_cons_self))]
theorem tgt_do {t : Tgt} (R : Rel K C F O ρ σ H) (r : Rdd K F H d v) {P : List Slot → Prop} (h : bindT t d ρ P) {Q : L2.St → Hp → Prop} (k : ∀ ρ' σ', But t.ixs σ σ' → Rel K C F O ρ' σ' H → P ρ' → Q σ' H) : gTgt K t v σ H Q := by
  cases t with
  | nm i => exact k _ _ ⟨by rw [List.length_set], fun j hj => List.getElem?_set_ne fun (z : i = j) => hj (List.mem_singleton.mpr z.symm)⟩ (R.setV i r) h
  | tup is =>
    cases d <;> first | exact h.elim | skip
    obtain ⟨a, vs, e, t1, r1⟩ := r
    exact ⟨a, vs, e, t1, by rw [r1.len]; exact h.1, names_do is _ vs ρ σ R r1 h.1 fun σ' b R' => k _ σ' b R' h.2⟩
end
/-! ### what is walked -/
structure Feed (K : PySem.W.Frag) (C : Ct) (J : It) (ds : List D) (F : Addr → Prop) (H : Hp) : Prop where
  go : ∀ i, i < ds.length → ∀ {F' O ρ σ H'}, FSt F F' H H' → Rel K C F' O ρ σ H' → J.go i H'
  stop : ∀ i, ds.length ≤ i → ∀ {F' O ρ σ H'}, FSt F F' H H' → Rel K C F' O ρ σ H' → J.stop i H'
  yld : ∀ i d, ds[i]? = some d → ∀ {F' O ρ σ H'}, FSt F F' H H' → Rel K C F' O ρ σ H' → ∀ x H'', J.yld i H' x H'' → Stp C.q F' F' H' H'' ∧ Rel K C F' O ρ σ H'' ∧ Rdd K F' H'' d x
abbrev TID := List Slot → (List D → Prop) → Prop
def liftI (K : PySem.W.Frag) (C : Ct) (t : TID) : TI := fun σ H Q => ∃ F O ρ, Rel K C F O ρ σ H ∧ t ρ fun ds => ∀ J H' F', Stp C.q F F' H H' → Rel K C F' O ρ σ H' → Feed K C J ds F' H' → Q J H'
structure DI (X : Cx) (C : Ct) (tg iter : Expr) (t : TID) : Prop where
  mono : ∀ ρ (P P' : List D → Prop), (∀ d, P d → P' d) → t ρ P → t ρ P'
  run : PI X tg iter (liftI X.K C t)
theorem pi_imp {X : Cx} {tg e : Expr} {t t' : TI} (h : PI X tg e t) (i : ∀ σ H Q, t' σ H Q → t σ H Q) : PI X tg e t' := ⟨fun pins s σ H R I q => h.run pins s σ H R I (i σ H R q)⟩
section
variable {K : PySem.W.Frag} {C : Ct} {F : Addr → Prop} {H : Hp} {ds es : List D} {vs us : List V} {a b : Addr}
theorem feed_list (fa : F a) (hl : H a = some (.lst vs)) (r : RdL K F H ds vs) : Feed K C (Itl K a) ds F H := by
  refine ⟨fun i hi F' O ρ σ H' s R => ?_, fun i hi F' O ρ σ H' s R => ?_, fun i d e F' O ρ σ H' s R x H'' y => ?_⟩
  · have hl' := s.fk a _ fa hl
    have : i < vs.length := by rw [r.len]; exact hi
    exact ⟨vs, vs[i], SqL.of hl', List.getElem?_eq_getElem this⟩
  · exact ⟨vs, SqL.of (s.fk a _ fa hl), by rw [r.len]; exact hi⟩
  · obtain ⟨e', y⟩ := y
    subst e'
    have z := y vs (SqL.of (s.fk a _ fa hl))
    obtain ⟨u, hu, hr⟩ := r.get e
    rw [hu] at z; cases z
    exact ⟨Stp.refl _ _ _, R, hr.fst s⟩
theorem feed_tup (hl : SqT K H a vs) (r : RdL K F H ds vs) : Feed K C (Itt K a) ds F H := by
  refine ⟨fun i hi F' O ρ σ H' s R => ?_, fun i hi F' O ρ σ H' s R => ?_, fun i d e F' O ρ σ H' s R x H'' y => ?_⟩
  · have : i < vs.length := by rw [r.len]; exact hi
    exact ⟨vs, vs[i], s.seq hl, List.getElem?_eq_getElem this⟩
  · exact ⟨vs, s.seq hl, by rw [r.len]; exact hi⟩
  · obtain ⟨e', y⟩ := y
    subst e'
    have z := y vs (s.seq hl)
    obtain ⟨u, hu, hr⟩ := r.get e
    rw [hu] at z; cases z
    exact ⟨Stp.refl _ _ _, R, hr.fst s⟩
def enumD (ds : List D) : List D := (List.range ds.length).map fun i => .tuple [.int (i : Nat), ds.getD i .none]
theorem enumD_len : (enumD ds).length = ds.length := by simp [enumD]
theorem enumD_get {i : Nat} {d : D} (h : (enumD ds)[i]? = some d) : ∃ x, ds[i]? = some x ∧ d = .tuple [.int (i : Nat), x] := by
  have hi : i < ds.length := by
    have := (List.getElem?_eq_some_iff.mp h).1
    rwa [enumD_len] at this
  unfold enumD at h
  rw [List.getElem?_map, List.getElem?_range hi] at h
  simp at h
  exact ⟨ds[i], List.getElem?_eq_getElem hi, by rw [← h]; simp [hi]⟩
theorem feed_enum (fa : F a) (hl : H a = some (.lst vs)) (r : RdL K F H ds vs) : Feed K C (Ite K a) (enumD ds) F H := by
  refine ⟨fun i hi F' O ρ σ H' s R => ?_, fun i hi F' O ρ σ H' s R => ?_, fun i d e F' O ρ σ H' s R x H'' y => ?_⟩
  · rw [enumD_len] at hi
    have : i < vs.length := by rw [r.len]; exact hi
    exact ⟨vs, vs[i], SqL.of (s.fk a _ fa hl), List.getElem?_eq_getElem this⟩
  · rw [enumD_len] at hi
    exact ⟨vs, SqL.of (s.fk a _ fa hl), by rw [r.len]; exact hi⟩
  · obtain ⟨T, x', rfl, n, rfl, y⟩ := y
    obtain ⟨x, ex, rfl⟩ := enumD_get e
    have z := y vs (SqL.of (s.fk a _ fa hl))
    obtain ⟨u, hu, hr⟩ := r.get ex
    rw [hu] at z; cases z
    exact new_tup (ds := [.int (i : Nat), x]) (vs := [.int (i : Nat), x']) R ⟨_, _, rfl, rfl, _, _, rfl, hr.fst s, rfl⟩ n
def zipD : List D → List D → List D
  | x :: xs, y :: ys => .tuple [x, y] :: zipD xs ys
  | _, _ => []
theorem zipD_len : ∀ (xs ys : List D), (zipD xs ys).length = min xs.length ys.length
  | [], _ => by simp [zipD]
  | _ :: _, [] => by simp [zipD]
  | x :: xs, y :: ys => by simp only [zipD, List.length_cons, zipD_len xs ys]; omega
theorem zipD_get : ∀ {xs ys : List D} {i : Nat} {d : D}, (zipD xs ys)[i]? = some d → ∃ x y, xs[i]? = some x ∧ ys[i]? = some y ∧ d = .tuple [x, y]
  | [], _, _, _, h => by simp [zipD] at h
  | _ :: _, [], _, _, h => by simp [zipD] at h
  | x :: xs, y :: ys, 0, d, h => by simp [zipD] at h; exact ⟨x, y, rfl, rfl, h.symm⟩
  | x :: xs, y :: ys, i + 1, d, h => by
    simp only [zipD, List.getElem?_cons_succ] at h
    obtain ⟨u, w, h1, h2, h3⟩ := zipD_get h
    exact ⟨u, w, by simpa using h1, by simpa using h2, h3⟩
theorem feed_zip (fa : F a) (hl : H a = some (.lst vs)) (r : RdL K F H ds vs) (fb : F b) (hb : H b = some (.lst us)) (r' : RdL K F H es us) : Feed K C (Itz K a b) (zipD ds es) F H := by
  have l1 := r.len
  have l2 := r'.len
  refine ⟨fun i hi F' O ρ σ H' s R => ?_, fun i hi F' O ρ σ H' s R => ?_, fun i d e F' O ρ σ H' s R x H'' y => ?_⟩
  · rw [zipD_len] at hi
    have i1 : i < vs.length := by omega
    have i2 : i < us.length := by omega
    exact ⟨vs, us, vs[i], us[i], SqL.of (s.fk a _ fa hl), SqL.of (s.fk b _ fb hb), List.getElem?_eq_getElem i1, List.getElem?_eq_getElem i2⟩
  · rw [zipD_len] at hi
    exact ⟨vs, us, SqL.of (s.fk a _ fa hl), SqL.of (s.fk b _ fb hb), by omega⟩
  · obtain ⟨T, x', y', rfl, n, rfl, h1, h2⟩ := y
    obtain ⟨x, y, ex, ey, rfl⟩ := zipD_get e
    have z1 := h1 vs (SqL.of (s.fk a _ fa hl))
    have z2 := h2 us (SqL.of (s.fk b _ fb hb))
    obtain ⟨u, hu, hr⟩ := r.get ex
    obtain ⟨w, hw, hr'⟩ := r'.get ey
    rw [hu] at z1; cases z1
    rw [hw] at z2; cases z2
    exact new_tup (ds := [x, y]) (vs := [x', y']) R ⟨_, _, rfl, hr.fst s, _, _, rfl, hr'.fst s, rfl⟩ n
theorem feed_zipT (hl : SqT K H a vs) (r : RdL K F H ds vs) (hb : SqT K H b us) (r' : RdL K F H es us) : Feed K C (RZ.ItzT K a b) (zipD ds es) F H := by
  have l1 := r.len
  have l2 := r'.len
  refine ⟨fun i hi F' O ρ σ H' s R => ?_, fun i hi F' O ρ σ H' s R => ?_, fun i d e F' O ρ σ H' s R x H'' y => ?_⟩
  · rw [zipD_len] at hi
    have i1 : i < vs.length := by omega
    have i2 : i < us.length := by omega
    exact ⟨vs, us, vs[i], us[i], s.seq hl, s.seq hb, List.getElem?_eq_getElem i1, List.getElem?_eq_getElem i2⟩
  · rw [zipD_len] at hi
    exact ⟨vs, us, s.seq hl, s.seq hb, by omega⟩
  · obtain ⟨T, x', y', rfl, n, rfl, h1, h2⟩ := y
    obtain ⟨x, y, ex, ey, rfl⟩ := zipD_get e
    have z1 := h1 vs (s.seq hl)
    have z2 := h2 us (s.seq hb)
    obtain ⟨u, hu, hr⟩ := r.get ex
    obtain ⟨w, hw, hr'⟩ := r'.get ey
    rw [hu] at z1; cases z1
    rw [hw] at z2; cases z2
    exact new_tup (ds := [x, y]) (vs := [x', y']) R ⟨_, _, rfl, hr.fst s, _, _, rfl, hr'.fst s, rfl⟩ n
def rangeD (lo c : Int) (n : Nat) : List D := (List.range n).map fun i => .int (lo + (i : Nat) * c)
theorem feed_rangeC (lo c : Int) (n : Nat) : Feed K C (Itc lo c n) (rangeD lo c n) F H := by
  have hl : (rangeD lo c n).length = n := by simp [rangeD]
  refine ⟨fun i hi F' O ρ σ H' s R => by rw [hl] at hi; exact hi, fun i hi F' O ρ σ H' s R => by rw [hl] at hi; exact hi, fun i d e F' O ρ σ H' s R x H'' y => ?_⟩
  obtain ⟨rfl, rfl⟩ := y
  have hi := (List.getElem?_eq_some_iff.mp e).1
  rw [hl] at hi
  unfold rangeD at e
  rw [List.getElem?_map, List.getElem?_range hi] at e
  simp at e
  subst e
  exact ⟨Stp.refl _ _ _, R, rfl⟩
theorem feed_range (lo : Int) (n : Nat) : Feed K C (Itr lo n) (rangeD lo 1 n) F H := by
  have hl : (rangeD lo 1 n).length = n := by simp [rangeD]
  refine ⟨fun i hi F' O ρ σ H' s R => by rw [hl] at hi; exact hi, fun i hi F' O ρ σ H' s R => by rw [hl] at hi; exact hi, fun i d e F' O ρ σ H' s R x H'' y => ?_⟩
  obtain ⟨rfl, rfl⟩ := y
  have hi := (List.getElem?_eq_some_iff.mp e).1
  rw [hl] at hi
  unfold rangeD at e
  rw [List.getElem?_map, List.getElem?_range hi] at e
  simp at e
  subst e
  exact ⟨Stp.refl _ _ _, R, rfl⟩
end
section
variable {X : Cx} {C : Ct} {tg e e1 e2 e3 : Expr} {te t1 t2 t3 : TED} {p pos : Pos}
def iL (te : TED) : TID := fun ρ P => te ρ fun d => match d with
  | .list ds => P ds
  | _ => False
def iT (te : TED) : TID := fun ρ P => te ρ fun d => match d with
  | .tuple ds => P ds
  | _ => False
theorem di_list (h : PD X C e te) : DI X C tg e (iL te) :=
  ⟨fun ρ P P' k => h.mono _ _ _ fun d h => by cases d <;> first | exact h.elim | exact k _ h, pi_imp (pi_list h.run) fun σ H Q ⟨F, O, ρ, R, q⟩ => ⟨F, O, ρ, R, h.mono _ _ _ (fun d k v H' F' s R' r => by
    cases d <;> first | exact k.elim | skip
    obtain ⟨a, vs, e, fa, hl, r⟩ := r
    exact ⟨a, e, ⟨vs, SqL.of hl⟩, k _ H' F' s R' (feed_list fa hl r)⟩) q⟩⟩
theorem di_tup (h : PD X C e te) : DI X C tg e (iT te) :=
  ⟨fun ρ P P' k => h.mono _ _ _ fun d h => by cases d <;> first | exact h.elim | exact k _ h, pi_imp (pi_tup h.run) fun σ H Q ⟨F, O, ρ, R, q⟩ => ⟨F, O, ρ, R, h.mono _ _ _ (fun d k v H' F' s R' r => by
    cases d <;> first | exact k.elim | skip
    obtain ⟨a, vs, e, hl, r⟩ := r
    exact ⟨a, e, ⟨vs, hl⟩, k _ H' F' s R' (feed_tup hl r)⟩) q⟩⟩
def iEnumL (te : TED) : TID := fun ρ P => te ρ fun d => match d with
  | .list ds => P (enumD ds)
  | _ => False
variable {elts : List Expr} {kk : Nat} {tpos : Pos}
theorem di_enumL (hg : Gl X "enumerate") (hm : X.mg "enumerate" = none) (h : PD X C e te) (hs : starEach [e] X.env = [(false, eval e X.env)] := by rfl) : DI X C (.Tuple elts kk tpos) (.Call (.Name "enumerate" p) [e] [] pos) (iEnumL te) :=
  ⟨fun ρ P P' k => h.mono _ _ _ fun d h => by cases d <;> first | exact h.elim | exact k _ h, pi_imp (pi_enum hg hm (pa_cons h.run pa_nil (by exact hs)) hs) fun σ H Q ⟨F, O, ρ, R, q⟩ => ⟨F, O, ρ, R, h.mono _ _ _ (fun d k v H' F' s R' r => by
    cases d <;> first | exact k.elim | skip
    obtain ⟨a, vs, e, fa, hl, r⟩ := r
    exact ⟨a, vs, by rw [e], SqL.of hl, k _ H' F' s R' (feed_enum fa hl r)⟩) q⟩⟩
def iZip (ta tb : TED) : TID := fun ρ P => ta ρ fun d => tb ρ fun d' => match d, d' with
  | .list xs, .list ys => P (zipD xs ys)
  | .tuple xs, .tuple ys => P (zipD xs ys)
  | _, _ => False
theorem di_zip (hg : Gl X "zip") (hm : X.mg "zip" = none) (h1 : PD X C e1 t1) (h2 : PD X C e2 t2) (hs : starEach [e1, e2] X.env = (false, eval e1 X.env) :: starEach [e2] X.env := by rfl) (hs2 : starEach [e2] X.env = (false, eval e2 X.env) :: starEach [] X.env := by rfl)
    (hpl : (backTo pos (starEach [e2] X.env)).any (·.1) = false := by rfl) : DI X C (.Tuple elts kk tpos) (.Call (.Name "zip" p) [e1, e2] [] pos) (iZip t1 t2) := by
  have mz : ∀ {d d' : D} {P P' : List D → Prop}, (∀ d, P d → P' d) → (match d, d' with
    | .list xs, .list ys => P (zipD xs ys)
    | .tuple xs, .tuple ys => P (zipD xs ys)
    | _, _ => False) → (match d, d' with
    | .list xs, .list ys => P' (zipD xs ys)
    | .tuple xs, .tuple ys => P' (zipD xs ys)
    | _, _ => False) := fun {d d' P P'} k h => by
    cases d <;> first | exact h.elim | (cases d' <;> first | exact h.elim | exact k _ h)
  refine ⟨fun ρ P P' k => h1.mono _ _ _ fun d => h2.mono _ _ _ fun d' h => mz k h, pi_imp (RZ.pi_zipA hg hm (pa_cons h1.run (pa_cons h2.run pa_nil hs2) hs) hs hpl) fun σ H Q ⟨F, O, ρ, R, q⟩ => ⟨F, O, ρ, R, h1.mono _ _ _ (fun d k v H1 F1 s1 R1 r1 => ⟨F1, O, ρ, R1, h2.mono _ _ _ (fun d' k2 u H2 F2 s2 R2 r2 => ?_) k⟩) q⟩⟩
  have r1 := r1.stpR R1 s2
  cases d <;> first | exact k2.elim | (cases d' <;> first | exact k2.elim | skip)
  · obtain ⟨a, vs, e, fa, hl, r⟩ := r1
    obtain ⟨b, us, e', fb, hl', r'⟩ := r2
    exact ⟨a, b, vs, us, by rw [e, e'], .inl ⟨SqL.of hl, SqL.of hl', k2 _ H2 F2 (s1.trans s2) R2 (feed_zip fa hl r fb hl' r')⟩⟩
  · obtain ⟨a, vs, e, hl, r⟩ := r1
    obtain ⟨b, us, e', hl', r'⟩ := r2
    exact ⟨a, b, vs, us, by rw [e, e'], .inr ⟨hl, hl', k2 _ H2 F2 (s1.trans s2) R2 (feed_zipT hl r hl' r')⟩⟩
def iR1 (ta : TED) : TID := fun ρ P => ta ρ fun d => isI d fun j => (-(2 ^ 62) ≤ j ∧ j < 2 ^ 62) ∧ P (rangeD 0 1 j.toNat)
theorem di_range1 (hg : Gl X "range") (hm : X.mg "range" = none) (h : PD X C e te) (hs : starEach [e] X.env = [(false, eval e X.env)] := by rfl) : DI X C tg (.Call (.Name "range" p) [e] [] pos) (iR1 te) :=
  ⟨fun ρ P P' k => h.mono _ _ _ fun d h => mono_isI (fun j h => ⟨h.1, k _ h.2⟩) h, pi_imp (pi_range1 hg hm (pa_cons h.run pa_nil (by exact hs)) hs) fun σ H Q ⟨F, O, ρ, R, q⟩ => ⟨F, O, ρ, R, h.mono _ _ _ (fun d k v H' F' s R' r => by
    obtain ⟨j, rfl, k⟩ := rdd_isI r k
    exact ⟨j, rfl, k.1.1, k.1.2, k.2 _ H' F' s R' (feed_range 0 _)⟩) q⟩⟩
def iR2 (ta tb : TED) : TID := fun ρ P => ta ρ fun d => tb ρ fun d' => isI d fun i => isI d' fun j => (-(2 ^ 62) ≤ i ∧ i < 2 ^ 62 ∧ -(2 ^ 62) ≤ j ∧ j < 2 ^ 62) ∧ P (rangeD i 1 (j - i).toNat)
theorem di_range2 (hg : Gl X "range") (hm : X.mg "range" = none) (h1 : PD X C e1 t1) (h2 : PD X C e2 t2) (hs : starEach [e1, e2] X.env = [(false, eval e1 X.env), (false, eval e2 X.env)] := by rfl) (hs2 : starEach [e2] X.env = [(false, eval e2 X.env)] := by rfl) : DI X C tg (.Call (.Name "range" p) [e1, e2] [] pos) (iR2 t1 t2) :=
  ⟨fun ρ P P' k => h1.mono _ _ _ fun d => h2.mono _ _ _ fun d' h => mono_isI (fun i => mono_isI fun j h => ⟨h.1, k _ h.2⟩) h, pi_imp (pi_range2 hg hm (pa_cons h1.run (pa_cons h2.run pa_nil (by exact hs2)) (by rw [hs, hs2])) hs hs2) fun σ H Q ⟨F, O, ρ, R, q⟩ => ⟨F, O, ρ, R, h1.mono _ _ _ (fun d k v H1 F1 s1 R1 r1 =>
    ⟨F1, O, ρ, R1, h2.mono _ _ _ (fun d' k2 u H2 F2 s2 R2 r2 => by
      obtain ⟨i, rfl, k2⟩ := rdd_isI r1 k2
      obtain ⟨j, rfl, k2⟩ := rdd_isI r2 k2
      exact ⟨i, j, rfl, k2.1, k2.2 _ H2 F2 (s1.trans s2) R2 (feed_range i _)⟩) k⟩) q⟩⟩
/-- range(i, j, -1) -/
def iR3 (ta tb tc : TED) : TID := fun ρ P => ta ρ fun d => tb ρ fun d' => tc ρ fun d'' => isI d fun i => isI d' fun j => isI d'' fun c => ∃ n, RgC i j c n ∧ P (rangeD i c n)
theorem di_range3 (hg : Gl X "range") (hm : X.mg "range" = none) (h1 : PD X C e1 t1) (h2 : PD X C e2 t2) (h3 : PD X C e3 t3) (hs : starEach [e1, e2, e3] X.env = (false, eval e1 X.env) :: starEach [e2, e3] X.env := by rfl) (hs2 : starEach [e2, e3] X.env = (false, eval e2 X.env) :: starEach [e3] X.env := by rfl) (hs3 : starEach [e3] X.env = (false, eval e3 X.env) :: starEach [] X.env := by rfl)
    (hpl : (backTo pos (starEach [e2, e3] X.env)).any (·.1) = false := by rfl) : DI X C tg (.Call (.Name "range" p) [e1, e2, e3] [] pos) (iR3 t1 t2 t3) :=
  ⟨fun ρ P P' k => h1.mono _ _ _ fun d => h2.mono _ _ _ fun d' => h3.mono _ _ _ fun d'' h => mono_isI (fun i => mono_isI fun j => mono_isI fun c ⟨n, h1, h2⟩ => ⟨n, h1, k _ h2⟩) h, pi_imp (pi_range3 hg hm (pa_cons h1.run (pa_cons h2.run (pa_cons h3.run pa_nil hs3) hs2) hs) hs hpl) fun σ H Q ⟨F, O, ρ, R, q⟩ => ⟨F, O, ρ, R, h1.mono _ _ _ (fun d k v H1 F1 s1 R1 r1 =>
    ⟨F1, O, ρ, R1, h2.mono _ _ _ (fun d' k2 u H2 F2 s2 R2 r2 => ⟨F2, O, ρ, R2, h3.mono _ _ _ (fun d'' k3 w H3 F3 s3 R3 r3 => by
      obtain ⟨i, rfl, k3⟩ := rdd_isI r1 k3
      obtain ⟨j, rfl, k3⟩ := rdd_isI r2 k3
      obtain ⟨c, rfl, n, h, k3⟩ := rdd_isI r3 k3
      exact ⟨i, j, c, n, rfl, h, k3 _ H3 F3 ((s1.trans s2).trans s3) R3 (feed_rangeC i c n)⟩) k2⟩) k⟩) q⟩⟩
end
/-! ### for, while -/
def forD (g : Tgt) (tb : TSD) (D : EndsD) : List DL.D → List Slot → Prop
  | [], ρ => D.nx ρ
  | d :: ds, ρ => bindT g d ρ fun ρ' => tb { D with nx := forD g tb D ds, ct := forD g tb D ds, bk := D.nx } ρ'
theorem forD_mono {g : Tgt} {tb : TSD} (hm : MonoS tb) {D D' : EndsD} (l : EndsD.Le D D') : ∀ (ds : List DL.D) (ρ : List Slot), forD g tb D ds ρ → forD g tb D' ds ρ
  | [], _, h => l.nx _ h
  | d :: ds, _, h => mono_bindT (fun ρ' h => hm { D with nx := forD g tb D ds, ct := forD g tb D ds, bk := D.nx } { D' with nx := forD g tb D' ds, ct := forD g tb D' ds, bk := D'.nx } _ ⟨forD_mono hm l ds, l.rt, l.nx, forD_mono hm l ds⟩ h) h
def sFor (ti : TID) (g : Tgt) (tb : TSD) : TSD := fun D ρ => ti ρ fun ds => forD g tb D ds ρ
def sWhile (c : TTD) (tb : TSD) : TSD := fun D ρ => ∃ W : Nat → List Slot → Prop, (∃ m, W m ρ) ∧ ∀ m ρ, W m ρ → c ρ fun b => if b = true then tb { D with nx := fun ρ' => ∃ m', m' < m ∧ W m' ρ', ct := fun ρ' => ∃ m', m' < m ∧ W m' ρ', bk := D.nx } ρ else D.nx ρ
section
variable {X : Cx} {C : Ct} {tg iter c : Expr} {body : List Stmt} {ti : TID} {tb : TSD} {tc : TTD} {pos : Pos}
theorem psd_for (g : Tgt) (hp : PassesOwn (model X.prog X.w) X.A X.env X.xe) (hc : X.calm = true) (hi : DI X C tg iter ti) (hg : PG X tg (gTgt X.K g)) (hb : PSDs X C body tb) (hs : ∀ x, foldedSetIterable iter X.env x = pure x := by intro _; rfl) : PSD X C (.For tg iter body [] pos) (sFor ti g tb) := by
  refine ⟨fun D D' ρ l => hi.mono _ _ _ fun ds => forD_mono hb.mono l ds ρ, ps_imp (ps_for hp hc hi.run hg hb.run hs) fun D σ H ⟨F, O, ρ, R, q⟩ => ⟨F, O, ρ, R, hi.mono _ _ _ (fun ds k J H1 F1 s1 R1 fd => ?_) q⟩⟩
  refine ⟨fun i m σ' H' => m = ds.length - i ∧ i ≤ ds.length ∧ ∃ F' O' ρ', FSt F1 F' H1 H' ∧ Rel X.K C F' O' ρ' σ' H' ∧ forD g tb (dEnds X.K C F' H' D) (ds.drop i) ρ', ⟨ds.length, rfl, Nat.zero_le _, F1, O, ρ, FSt.refl _ _, R1, forD_mono hb.mono (dEnds_le (FSt.of R s1)) _ _ k⟩, ?_⟩
  rintro i m σ' H' ⟨rfl, hi, F', O', ρ', s', R', k'⟩
  by_cases hlt : i < ds.length
  · refine .inr ⟨fd.go i hlt s' R', _, fun σ2 H2 h => h, fun x H'' y => ?_⟩
    obtain ⟨s2, R2, r2⟩ := fd.yld i _ (List.getElem?_eq_getElem hlt) s' R' x H'' y
    rw [List.drop_eq_getElem_cons hlt] at k'
    refine tgt_do R2 r2 k' fun ρ3 σ3 _ R3 k3 => ?_
    refine ⟨F', O', ρ3, R3, hb.mono { dEnds X.K C F' H' D with nx := forD g tb (dEnds X.K C F' H' D) (ds.drop (i + 1)), ct := forD g tb (dEnds X.K C F' H' D) (ds.drop (i + 1)), bk := (dEnds X.K C F' H' D).nx } _ _ ⟨fun ρ4 k4 F5 O5 σ5 H5 s5 R5 => ?_, fun d k4 v F5 O5 ρ5 σ5 H5 s5 R5 r5 => k4 v F5 O5 ρ5 σ5 H5 ((FSt.of R' s2).trans s5) R5 r5, fun ρ4 k4 F5 O5 σ5 H5 s5 R5 => k4 F5 O5 σ5 H5 ((FSt.of R' s2).trans s5) R5, fun ρ4 k4 F5 O5 σ5 H5 s5 R5 => ?_⟩ k3⟩
    · exact ⟨ds.length - (i + 1), by omega, rfl, hlt, F5, O5, ρ4, (s'.trans (FSt.of R' s2)).trans s5, R5, forD_mono hb.mono (dEnds_le ((FSt.of R' s2).trans s5)) _ _ k4⟩
    · exact ⟨ds.length - (i + 1), by omega, rfl, hlt, F5, O5, ρ4, (s'.trans (FSt.of R' s2)).trans s5, R5, forD_mono hb.mono (dEnds_le ((FSt.of R' s2).trans s5)) _ _ k4⟩
  · have e : ds.drop i = [] := List.drop_eq_nil_of_le (by omega)
    rw [e] at k'
    exact .inl ⟨fd.stop i (by omega) s' R', k' F' O' σ' H' (FSt.refl _ _) R'⟩
theorem psd_while (hp : PassesOwn (model X.prog X.w) X.A X.env X.xe) (hc : DT X C c tc) (hb : PSDs X C body tb) : PSD X C (.While c body [] pos) (sWhile tc tb) := by
  refine ⟨fun D D' ρ l ⟨W, h0, h⟩ => ⟨W, h0, fun m ρ w => hc.mono _ _ _ (fun b k => mono_ite k (hb.mono { D with nx := fun ρ' => ∃ m', m' < m ∧ W m' ρ', ct := fun ρ' => ∃ m', m' < m ∧ W m' ρ', bk := D.nx } { D' with nx := fun ρ' => ∃ m', m' < m ∧ W m' ρ', ct := fun ρ' => ∃ m', m' < m ∧ W m' ρ', bk := D'.nx } _ ⟨fun _ z => z, l.rt, l.nx, fun _ z => z⟩) (l.nx _)) (h m ρ w)⟩, ps_imp (ps_while hp hc.run hb.run) fun D σ H ⟨F, O, ρ, R, W, ⟨m0, w0⟩, q⟩ => ?_⟩
  refine ⟨fun m σ' H' => ∃ F' O' ρ', FSt F F' H H' ∧ Rel X.K C F' O' ρ' σ' H' ∧ W m ρ', ⟨m0, F, O, ρ, FSt.refl _ _, R, w0⟩, ?_⟩
  rintro m σ' H' ⟨F', O', ρ', s', R', w'⟩
  refine ⟨F', O', ρ', R', hc.mono _ _ _ (fun b k H2 F2 s2 R2 => mono_ite k (fun k => ?_) fun k => k F2 O' σ' H2 (s'.trans (FSt.of R' s2)) R2) (q m ρ' w')⟩
  refine ⟨_, fun σ3 H3 h => h, F2, O', ρ', R2, hb.mono { dEnds X.K C F H D with nx := fun ρ' => ∃ m', m' < m ∧ W m' ρ', ct := fun ρ' => ∃ m', m' < m ∧ W m' ρ', bk := (dEnds X.K C F H D).nx } _ _ ⟨fun ρ4 k4 F5 O5 σ5 H5 s5 R5 => ?_, fun d k4 v F5 O5 ρ5 σ5 H5 s5 R5 r5 => k4 v F5 O5 ρ5 σ5 H5 ((s'.trans (FSt.of R' s2)).trans s5) R5 r5, fun ρ4 k4 F5 O5 σ5 H5 s5 R5 => k4 F5 O5 σ5 H5 ((s'.trans (FSt.of R' s2)).trans s5) R5, fun ρ4 k4 F5 O5 σ5 H5 s5 R5 => ?_⟩ k⟩
  · obtain ⟨m', hm, w⟩ := k4
    exact ⟨m', hm, F5, O5, ρ4, (s'.trans (FSt.of R' s2)).trans s5, R5, w⟩
  · obtain ⟨m', hm, w⟩ := k4
    exact ⟨m', hm, F5, O5, ρ4, (s'.trans (FSt.of R' s2)).trans s5, R5, w⟩
end
end DL

namespace DL
open PySem PySem.Spec PyProof.Rows L2

/-! ### several values, frozen or own, stored at once -/
def LsR (K : PySem.W.Frag) (C : Ct) (F : Addr → Prop) (O : Fps) (H : Hp) : List Slot → List V → List Addr → Prop
  | [], vs, as => vs = [] ∧ as = []
  | .val d :: ss, vs, as => ∃ v r, vs = v :: r ∧ Rdd K F H d v ∧ LsR K C F O H ss r as
  | .own ds :: ss, vs, as => ∃ a xs r as', vs = .ref a :: r ∧ as = a :: as' ∧ a ∉ as' ∧ ¬ F a ∧ (∀ i, a ∉ O i) ∧ a ≠ C.q.p ∧ a ≠ C.q.l ∧ Nn C.H0 a ∧ H a = some (.lst xs) ∧ RdL K F H ds xs ∧ LsR K C F O H ss r as'
  | _ :: _, _, _ => False
section
variable {K : PySem.W.Frag} {C : Ct} {F F' : Addr → Prop} {O : Fps} {ρ : List Slot} {σ : L2.St} {H H' : Hp} {d : D} {v : V} {ds : List D} {vs : List V}
theorem LsR.stp (R : Rel K C F O ρ σ H) (s : Stp C.q F F' H H') : ∀ (ss : List Slot) (vs : List V) (as : List Addr), LsR K C F O H ss vs as → LsR K C F' O H' ss vs as := by
  intro ss
  induction ss with
  | nil => intro vs as h; exact h
  | cons s0 ss ih =>
    intro vs as h
    cases s0 with
    | val d =>
      obtain ⟨v, r, e, h1, h2⟩ := h
      exact ⟨v, r, e, h1.stpR R s, ih _ _ h2⟩
    | own ds =>
      obtain ⟨a, xs, r, as', e1, e2, h0, h1, h2, h3, h4, h5, h6, h7, h8⟩ := h
      exact ⟨a, xs, r, as', e1, e2, h0, fun z => (s.nw a z).elim h1 (fun n => n.no h6 (fun ps z => nomatch z)), h2, h3, h4, h5, s.kp.kp a _ h6 h3 h4 (fun ps z => nomatch z), h7.stpR R s, ih _ _ h8⟩
    | _ => exact h.elim
/-- a list without further things is set in place -/
def putS : List Slot → List Nat → List Slot → List Slot
  | ρ, i :: is, s :: ss => putS (ρ.set i s) is ss
  | ρ, _, _ => ρ
def putV : L2.St → List Nat → List V → L2.St
  | σ, i :: is, v :: vs => putV (σ.set i (some v)) is vs
  | σ, _, _ => σ
theorem Rel.putS (is : List Nat) : ∀ (ss : List Slot) (vs : List V) (as : List Addr) (O : Fps) (ρ : List Slot) (σ : L2.St), Rel K C F O ρ σ H → LsR K C F O H ss vs as → ss.length = is.length → ∃ O', Rel K C F O' (putS ρ is ss) (putV σ is vs) H := by
  induction is with
  | nil =>
    intro ss vs as O ρ σ R h hl
    cases ss with
    | nil => exact ⟨O, R⟩
    | cons => cases hl
  | cons i is ih =>
    intro ss vs as O ρ σ R h hl
    cases ss with
    | nil => cases hl
    | cons s0 ss =>
      cases s0 with
      | val d =>
        obtain ⟨v, r, e, h1, h2⟩ := h
        subst e
        exact ih ss r as O _ _ (R.setV i h1) h2 (by simpa using hl)
      | own ds =>
        obtain ⟨a, xs, r, as', e1, e2, h0, h1, h2, h3, h4, h5, h6, h7, h8⟩ := h
        subst e1
        refine ih ss r as' _ _ _ (R.setF i h1 h2 h3 h4 h5 h6 h7) ?_ (by simpa using hl)
        -- the others are no a
        have key : ∀ (ss : List Slot) (vs : List V) (as' : List Addr), a ∉ as' → LsR K C F O H ss vs as' → LsR K C F (putO O i [a]) H ss vs as' := by
          intro ss
          induction ss with
          | nil => intro vs as' _ h; exact h
          | cons s1 ss ih2 =>
            intro vs as' na h
            cases s1 with
            | val d =>
              obtain ⟨v, r, e, h1, h2⟩ := h
              exact ⟨v, r, e, h1, ih2 _ _ na h2⟩
            | own ds =>
              obtain ⟨b, xs, r, as2, e1, e2, g0, g1, g2, g3, g4, g5, g6, g7, g8⟩ := h
              subst e2
              refine ⟨b, xs, r, as2, e1, rfl, g0, g1, fun j z => ?_, g3, g4, g5, g6, g7, ih2 _ _ (fun z => na (List.mem_cons_of_mem _ z)) g8⟩
              unfold putO at z
              split at z
              · exact na (List.mem_singleton.mp z ▸ List.mem_cons_self)
              · exact g2 j z
            | _ => exact h.elim
        exact key _ _ _ h0 h8
      | _ => exact h.elim
end
abbrev TMD := List Slot → (List Slot → Prop) → Prop
def liftM (K : PySem.W.Frag) (C : Ct) (t : TMD) : TA := fun σ H Q => ∃ F O ρ, Rel K C F O ρ σ H ∧ t ρ fun ss => ∀ vs as H' F', Stp C.q F F' H H' → Rel K C F' O ρ σ H' → LsR K C F' O H' ss vs as → (∀ a ∈ as, Nn H a) → Q vs H'
structure DM (X : Cx) (C : Ct) (es : List Expr) (t : TMD) : Prop where
  mono : ∀ ρ (P P' : List Slot → Prop), (∀ d, P d → P' d) → t ρ P → t ρ P'
  run : PA X es (liftM X.K C t)
def mNil : TMD := fun _ P => P []
def mVal (te : TED) (tm : TMD) : TMD := fun ρ P => te ρ fun d => tm ρ fun ss => P (.val d :: ss)
def mOwn (te : TED) (tm : TMD) : TMD := fun ρ P => te ρ fun d => match d with
  | .list ds => tm ρ fun ss => P (.own ds :: ss)
  | _ => False
section
variable {X : Cx} {C : Ct} {e a b c : Expr} {es : List Expr} {te : TED} {tm : TMD} {pos px py pz pt : Pos} {kt k2 : Nat}
theorem dm_nil : DM X C [] mNil := ⟨fun _ _ _ k h => k _ h, pa_imp pa_nil fun σ H Q ⟨F, O, ρ, R, q⟩ => q [] [] H F (Stp.refl _ _ _) R ⟨rfl, rfl⟩ (fun a h => nomatch h)⟩
theorem dm_val (h : PD X C e te) (ha : DM X C es tm) (hs : starEach (e :: es) X.env = (false, eval e X.env) :: starEach es X.env := by rfl) : DM X C (e :: es) (mVal te tm) :=
  ⟨fun ρ P P' k => h.mono _ _ _ fun d => ha.mono _ _ _ fun as => k _, pa_imp (pa_cons h.run ha.run hs) fun σ H Q ⟨F, O, ρ, R, q⟩ =>
    ⟨F, O, ρ, R, h.mono _ _ _ (fun d k v H1 F1 s1 R1 r1 => ⟨F1, O, ρ, R1, ha.mono _ _ _ (fun ss k2 vs as H2 F2 s2 R2 r2 n2 => k2 _ as H2 F2 (s1.trans s2) R2 ⟨v, vs, rfl, Rdd.stpR R1 s2 r1, r2⟩ fun a h => s1.kp.free (n2 a h)) k⟩) q⟩⟩
theorem dm_own (h : PF X C e te) (ha : DM X C es tm) (hs : starEach (e :: es) X.env = (false, eval e X.env) :: starEach es X.env := by rfl) : DM X C (e :: es) (mOwn te tm) := by
  refine ⟨fun ρ P P' k => h.mono _ _ _ fun d z => ?_, pa_imp (pa_cons h.run ha.run hs) fun σ H Q ⟨F, O, ρ, R, q⟩ => ⟨F, O, ρ, R, h.mono _ _ _ (fun d k v H1 F1 s1 R1 r1 => ?_) q⟩⟩
  · cases d <;> first | exact z.elim | exact ha.mono _ _ _ (fun as => k _) z
  · cases d <;> first | exact k.elim | skip
    obtain ⟨a, xs, rfl, n, h1, h2, h3, h4⟩ := r1
    obtain ⟨n1, n2, n3, _, _⟩ := R.np n
    refine ⟨F1, O, ρ, R1, ha.mono _ _ _ (fun ss k2 vs as H2 F2 s2 R2 r2 m2 => k2 _ (a :: as) H2 F2 (s1.trans s2) R2 ⟨a, xs, vs, as, rfl, rfl, fun z => ?_, fun z => ?_, h2, n1, n2, n3, s2.kp.kp a _ h3 n1 n2 (fun ps z => nomatch z), h4.stpR R1 s2, r2⟩ fun b hb => ?_) k⟩
    · exact (m2 a z).no h3 (fun ps z => nomatch z)
    · exact (s2.nw a z).elim h1 fun n => n.no h3 (fun ps z => nomatch z)
    · rcases List.mem_cons.mp hb with rfl | hb
      · exact n
      · exact s1.kp.free (m2 b hb)
def sPar (is : List Nat) (tm : TMD) : TSD := fun D ρ => tm ρ fun ss => ss.length = is.length ∧ D.nx (putS ρ is ss)
theorem mono_par (ha : DM X C es tm) (is : List Nat) : MonoS (sPar is tm) := fun D D' ρ l h => ha.mono _ _ _ (fun ss h => ⟨h.1, l.nx _ h.2⟩) h
theorem LsR.len {K : PySem.W.Frag} {F : Addr → Prop} {O : Fps} {H : Hp} : ∀ (ss : List Slot) (vs : List V) (as : List Addr), LsR K C F O H ss vs as → vs.length = ss.length := by
  intro ss
  induction ss with
  | nil => intro vs as h; rw [h.1]; rfl
  | cons s0 ss ih =>
    intro vs as h
    cases s0 with
    | val d => obtain ⟨v, r, e, h1, h2⟩ := h; rw [e, List.length_cons, List.length_cons, ih _ _ h2]
    | own ds =>
      obtain ⟨a, xs, r, as2, e1, e2, g0, g1, g2, g3, g4, g5, g6, g7, g8⟩ := h
      rw [e1, List.length_cons, List.length_cons, ih _ _ g8]
    | _ => exact h.elim
variable {pt2 : Pos}
theorem psd_par {i j : Nat} {x y : Str} (hc : X.calm = true) (hN : X.N.Nodup) (ha : DM X C [a, b] tm) (hi : X.N[i]? = some x := by rfl) (hj : X.N[j]? = some y := by rfl) (hij : i ≠ j := by decide)
    (hx : X.env.scope.names.lookup x = some .local := by rfl) (hy : X.env.scope.names.lookup y = some .local := by rfl)
    (hw : swappedStores [.Tuple [.Name x px, .Name y py] kt pt] (.Tuple [a, b] k2 pt2) X.env = pure (some [x, y]) := by rfl)
    (hs : swapsWithSole [.Tuple [.Name x px, .Name y py] kt pt] (.Tuple [a, b] k2 pt2) pos.line X.env = pure false := by rfl) :
    PSD X C (.Assign [.Tuple [.Name x px, .Name y py] kt pt] (.Tuple [a, b] k2 pt2) pos) (sPar [i, j] tm) := by
  refine ⟨mono_par ha _, ps_imp (ps_par hc hN hi hj hij hx hy ha.run hw hs) fun D σ H ⟨F, O, ρ, R, q⟩ => ⟨F, O, ρ, R, ha.mono _ _ _ (fun ss k vs as H1 F1 s1 R1 r1 _ => ?_) q⟩⟩
  have hl := LsR.len ss vs as r1
  rw [k.1] at hl
  match vs, hl with
  | [v, w], _ =>
    obtain ⟨O', R'⟩ := Rel.putS [i, j] ss [v, w] as O ρ σ R1 r1 k.1
    exact ⟨v, w, rfl, k.2 F1 O' _ H1 (FSt.of R s1) R'⟩
theorem psd_par3 {i j l : Nat} {x y z : Str} (hc : X.calm = true) (hN : X.N.Nodup) (ha : DM X C [a, b, c] tm) (hi : X.N[i]? = some x := by rfl) (hj : X.N[j]? = some y := by rfl) (hl : X.N[l]? = some z := by rfl) (hij : i ≠ j := by decide) (hil : i ≠ l := by decide) (hjl : j ≠ l := by decide)
    (hx : X.env.scope.names.lookup x = some .local := by rfl) (hy : X.env.scope.names.lookup y = some .local := by rfl) (hz : X.env.scope.names.lookup z = some .local := by rfl)
    (hw : swappedStores [.Tuple [.Name x px, .Name y py, .Name z pz] kt pt] (.Tuple [a, b, c] k2 pt2) X.env = pure (some [x, y, z]) := by rfl)
    (hs : swapsWithSole [.Tuple [.Name x px, .Name y py, .Name z pz] kt pt] (.Tuple [a, b, c] k2 pt2) pos.line X.env = pure false := by rfl) :
    PSD X C (.Assign [.Tuple [.Name x px, .Name y py, .Name z pz] kt pt] (.Tuple [a, b, c] k2 pt2) pos) (sPar [i, j, l] tm) := by
  refine ⟨mono_par ha _, ps_imp (ps_par3 hc hN hi hj hl hij hil hjl hx hy hz ha.run hw hs) fun D σ H ⟨F, O, ρ, R, q⟩ => ⟨F, O, ρ, R, ha.mono _ _ _ (fun ss k vs as H1 F1 s1 R1 r1 _ => ?_) q⟩⟩
  have hl := LsR.len ss vs as r1
  rw [k.1] at hl
  match vs, hl with
  | [v, w, u], _ =>
    obtain ⟨O', R'⟩ := Rel.putS [i, j, l] ss [v, w, u] as O ρ σ R1 r1 k.1
    exact ⟨v, w, u, rfl, k.2 F1 O' _ H1 (FSt.of R s1) R'⟩
/-- targets = a frozen value -/
def sAsg (g : Tgt) (te : TED) : TSD := fun D ρ => te ρ fun d => bindT g d ρ D.nx
variable {tg : Expr}
theorem psd_asg (g : Tgt) (he : PD X C e te) (hg : PG X tg (gTgt X.K g)) (hs : swapsWithSole [tg] e pos.line X.env = pure false := by rfl) (hw : swappedStores [tg] e X.env = pure none := by rfl)
    (h1 : (assignEach [tg] X.env).map (·.2) = [assign tg X.env] := by rfl) : PSD X C (.Assign [tg] e pos) (sAsg g te) :=
  ⟨fun D D' ρ l => he.mono _ _ _ fun d => mono_bindT l.nx, ps_imp (ps_asg he.run hg hs hw h1) fun D σ H ⟨F, O, ρ, R, q⟩ => ⟨F, O, ρ, R, he.mono _ _ _ (fun d k v H' F' s R' r =>
    tgt_do R' r k fun ρ' σ' _ R2 k2 => k2 F' O σ' H' (FSt.of R s) R2) q⟩⟩
end

/-! ### list comprehensions -/
def wipeD (ρ : List Slot) : List Nat → List Slot
  | [] => ρ
  | v :: vs => (wipeD ρ vs).set v .un
def compD (g : Tgt) (tt : TTD) (te : TED) (ρ : List Slot) : List D → List D → (D → Prop) → Prop
  | [], acc, P => P (.list acc)
  | d :: ds, acc, P => bindT g d ρ fun ρ2 => tt ρ2 fun b => if b = true then te ρ2 fun y => acc.length < sizeLine ∧ compD g tt te ρ ds (acc ++ [y]) P else compD g tt te ρ ds acc P
def dComp (ti : TID) (g : Tgt) (tt : TTD) (te : TED) (vs : List Nat) : TED := fun ρ P => ti ρ fun ds => compD g tt te (wipeD ρ vs) ds [] P
structure DTs (X : Cx) (C : Ct) (ifs : List Expr) (t : TTD) : Prop where
  mono : MonoT t
  run : PTs X ifs (liftT X.K C t)
def tYesD : TTD := fun _ P => P true
theorem pts_imp {X : Cx} {ifs : List Expr} {t t' : TT} (h : PTs X ifs t) (i : ∀ σ H Q, t' σ H Q → t σ H Q) : PTs X ifs t' := ⟨fun pins s σ H Q I q => h.run pins s σ H Q I (i σ H Q q)⟩
theorem dts_nil {X : Cx} {C : Ct} : DTs X C [] tYesD := ⟨fun _ _ _ k h => k _ h, pts_imp pts_nil fun σ H Q ⟨F, O, ρ, R, q⟩ => q H F (Stp.refl _ _ _) R⟩
theorem dts_one {X : Cx} {C : Ct} {c : Expr} {t : TTD} (h : DT X C c t) : DTs X C [c] t := ⟨h.mono, pts_one h.run⟩
theorem compD_mono {g : Tgt} {tt : TTD} {te : TED} {ρ : List Slot} (ht : MonoT tt) (he : MonoE te) : ∀ (ds acc : List D) (P P' : D → Prop), (∀ d, P d → P' d) → compD g tt te ρ ds acc P → compD g tt te ρ ds acc P'
  | [], acc, P, P', k, h => k _ h
  | d :: ds, acc, P, P', k, h => mono_bindT (fun ρ2 h => ht _ _ _ (fun b h => mono_ite h (he _ _ _ fun y h => ⟨h.1, compD_mono ht he ds _ P P' k h.2⟩) (compD_mono ht he ds _ P P' k)) h) h
section
variable {K : PySem.W.Frag} {C : Ct} {F F' : Addr → Prop} {O : Fps} {ρ : List Slot} {σ : L2.St} {H H' : Hp}
theorem Rel.wipe (R : Rel K C F O ρ σ H) : ∀ vs : List Nat, Rel K C F O (wipeD ρ vs) (L2.wipe σ vs) H
  | [] => R
  | v :: vs => (R.wipe vs).setU v none
end
theorem comp_imp {K : PySem.W.Frag} {C : Ct} {ti : TID} {tt : TTD} {te : TED} (g : Tgt) (own : List (Str × Nat)) (hi : ∀ ρ (P P' : List D → Prop), (∀ d, P d → P' d) → ti ρ P → ti ρ P') (hv : ∀ i ∈ g.ixs, i ∈ own.map (·.2)) (mt : MonoT tt) (me : MonoE te) :
    MonoE (dComp ti g tt te (own.map (·.2))) ∧ ∀ σ H Q, lift (rF K) K C (dComp ti g tt te (own.map (·.2))) σ H Q → tLc (liftI K C ti) (gTgt K g) (liftT K C tt) (lift (rE K) K C te) (own.map (·.2)) σ H Q := by
  refine ⟨fun ρ P P' k => hi _ _ _ fun ds => compD_mono mt me ds [] P P' k, fun σ H Q ⟨F, O, ρ, R, q⟩ => ⟨F, O, ρ, R, hi _ _ _ (fun ds k J H1 F1 s1 R1 fd D hD => ?_) q⟩⟩
  obtain ⟨n1, n2, n3, n4, n5⟩ := R1.np (Nn.of hD)
  have hD0 : Nn H D := s1.kp.free (Nn.of hD)
  refine ⟨fun i m H' => m = ds.length - i ∧ i ≤ ds.length ∧ ∃ F' acc vs, Stp C.q F F' H H' ∧ FSt F1 F' H1 H' ∧ Rel K C F' O ρ σ H' ∧ H' D = some (.lst vs) ∧ ¬ F' D ∧ RdL K F' H' acc vs ∧
    compD g tt te (wipeD ρ (own.map (·.2))) (ds.drop i) acc (fun d => ∀ v H' F', Stp C.q F F' H H' → Rel K C F' O ρ σ H' → rF K F' O H H' d v → Q v H'), ⟨ds.length, rfl, Nat.zero_le _, F1, [], [], ?_, ?_, R1.new hD, upd_same, n4, rfl, k⟩, ?_⟩
  · exact s1.trans (Stp.new hD)
  · exact FSt.of R1 (Stp.new hD)
  rintro i m H' ⟨rfl, hile, F', acc, vs, sS, sF, R', hl, nf, ra, k'⟩
  by_cases hlt : i < ds.length
  · refine .inr ⟨fd.go i hlt sF R', fun H2 => ∃ m', m' < ds.length - i ∧ (m' = ds.length - (i + 1) ∧ i + 1 ≤ ds.length ∧ ∃ F' acc vs, Stp C.q F F' H H2 ∧ FSt F1 F' H1 H2 ∧ Rel K C F' O ρ σ H2 ∧ H2 D = some (.lst vs) ∧ ¬ F' D ∧ RdL K F' H2 acc vs ∧
      compD g tt te (wipeD ρ (own.map (·.2))) (ds.drop (i + 1)) acc (fun d => ∀ v H' F', Stp C.q F F' H H' → Rel K C F' O ρ σ H' → rF K F' O H H' d v → Q v H')), fun H2 z => z, fun x H'' y => ?_⟩
    obtain ⟨s2, R2, r2⟩ := fd.yld i _ (List.getElem?_eq_getElem hlt) sF R' x H'' y
    rw [List.drop_eq_getElem_cons hlt, compD] at k'
    have fwd : ∀ {F5 : Addr → Prop} {H5 : Hp}, Stp C.q F' F5 H' H5 → Rel K C F5 O ρ σ H5 → H5 D = some (.lst vs) ∧ ¬ F5 D := fun {F5 H5} s5 R5 =>
      ⟨s5.kp.kp D _ hl n1 n2 (fun ps z => nomatch z), fun z => (s5.nw D z).elim nf fun n => n.no hl (fun ps z => nomatch z)⟩
    refine tgt_do (t := g) (R2.wipe (own.map (·.2))) r2 k' ?_
    intro ρ3 σ3 b3 R3 k3
    refine ⟨?_, ?_⟩
    · rw [b3.wipe _ hv]
      clear b3 k3 R3
      -- wiping twice
      have b4 : But (own.map (·.2)) σ (L2.wipe σ (own.map (·.2))) := by
        refine ⟨wipe_length _ _, fun j hj => ?_⟩
        have : ∀ ws : List Nat, j ∉ ws → (L2.wipe σ ws)[j]? = σ[j]? := by
          intro ws
          induction ws with
          | nil => intro _; rfl
          | cons w ws ih => intro h; unfold L2.wipe; rw [List.getElem?_set_ne (fun e => h (by rw [e]; exact List.mem_cons_self)), ih (fun z => h (List.mem_cons_of_mem _ z))]
        exact this _ hj
      exact b4.wipe _ fun _ h => h
    -- the frame of the block: back to the frame of the def
    have back : ∀ {F5 : Addr → Prop} {H5 : Hp}, Stp C.q F' F5 H'' H5 → Rel K C F5 O ρ3 σ3 H5 → Rel K C F5 O ρ σ H5 := fun {F5 H5} s5 R5 =>
      R2.step s5 R5.dk R5.tb fun a ha _ => R5.fz a ha
    refine ⟨F', O, ρ3, R3, mt _ _ _ (fun b k4 H5 F5 s5 R5 => ?_) k3⟩
    have R5' := back s5 R5
    cases b with
    | false =>
      simp only [Bool.false_eq_true, if_false] at k4 ⊢
      obtain ⟨z1, z2⟩ := fwd (s2.trans s5) R5'
      exact ⟨ds.length - (i + 1), by omega, rfl, hlt, F5, acc, vs, sS.trans (s2.trans s5), sF.trans (FSt.of R' (s2.trans s5)), R5', z1, z2, ra.stpR R' (s2.trans s5), k4⟩
    | true =>
      simp only [if_true] at k4 ⊢
      refine ⟨F5, O, ρ3, R5, me _ _ _ (fun d k6 v H6 F6 s6 R6 r6 => ?_) k4⟩
      have R6' := back (s5.trans s6) R6
      have st : Stp C.q F' F6 H' H6 := s2.trans (s5.trans s6)
      obtain ⟨z1, z2⟩ := fwd st R6'
      have ra6 := ra.stpR R' st
      have lw : FSt F6 F6 H6 (upd H6 D (.lst (vs ++ [v]))) := FSt.wr z1 (.inl ⟨_, rfl⟩) z2
      refine ⟨vs, z1, by rw [ra6.len]; exact k6.1, ds.length - (i + 1), by omega, rfl, hlt, F6, acc ++ [d], vs ++ [v], ?_, sF.trans ((FSt.of R' st).trans lw), R6'.wr z1 (.inl ⟨_, rfl⟩) (.inl ⟨_, rfl⟩) z2 n1 n2 n3 n5, upd_same, z2, (RdL.append (es := [d]) (us := [v]) ra6 ⟨v, [], rfl, r6, rfl⟩).fst lw, k6.2⟩
      have s7 := sS.trans st
      exact ⟨⟨fun b o e h1 h2 h3 => (upd_ne fun (z : b = D) => hD0.no (by rw [← z]; exact e) h3).trans (s7.kp.kp b o e h1 h2 h3), fun b o e h => by
        by_cases z : b = D
        · exact absurd (hD0.no (by rw [← z]; exact e) h) id
        · rw [upd_ne z]; exact s7.kp.th b o e h⟩, s7.up, s7.nw⟩
  · have e : ds.drop i = [] := List.drop_eq_nil_of_le (by omega)
    rw [e] at k'
    exact .inl ⟨fd.stop i (by omega) sF R', k' _ H' F' sS R' ⟨D, vs, rfl, hD0, nf, n5, hl, ra⟩⟩
theorem pf_comp {X : Cx} {C : Ct} {elt tg iter : Expr} {ifs : List Expr} {scope : Scope} {pos : Pos} {ti : TID} {tt : TTD} {te : TED} (g : Tgt) (own : List (Str × Nat)) (hc : X.calm = true) (hN : X.N.Nodup) (hi : DI X C tg iter ti) (ok : BlkOk X.N X.env.scope scope own)
    (hv : ∀ i ∈ g.ixs, i ∈ own.map (·.2))
    (hg : ∀ (s : Shared) (H : Hp) (A : Addr) (cl : List (Str × Addr)) (fp : List Addr), PG (X.blk s H scope (compEnvC scope cl A X.env) fp) tg (gTgt X.K g))
    (ht : ∀ (s : Shared) (H : Hp) (A : Addr) (cl : List (Str × Addr)) (fp : List Addr), DTs (X.blk s H scope (compEnvC scope cl A X.env) fp) C ifs tt)
    (he : ∀ (s : Shared) (H : Hp) (A : Addr) (cl : List (Str × Addr)) (fp : List Addr), PD (X.blk s H scope (compEnvC scope cl A X.env) fp) C elt te) (hs : ∀ x, foldedSetIterable iter X.env x = pure x := by intro _; rfl) :
    PF X C (.ListComp elt [⟨tg, iter, ifs, 0⟩] scope pos) (dComp ti g tt te (own.map (·.2))) := by
  have mt : MonoT tt := (ht X.s_0 (fun _ => none) 0 [] []).mono
  have me : MonoE te := (he X.s_0 (fun _ => none) 0 [] []).mono
  obtain ⟨m, im⟩ := comp_imp (K := X.K) (C := C) g own hi.mono hv mt me
  exact ⟨m, pe_imp (pe_lc (te := lift (rE X.K) X.K C te) (tt := liftT X.K C tt) hc hN hi.run ok hg (fun s H A cl fp => (ht s H A cl fp).run) (fun s H A cl fp => (he s H A cl fp).run) hs) im⟩
theorem lift_ofF {K : PySem.W.Frag} {C : Ct} {t : TED} (m : MonoE t) {σ : L2.St} {H : Hp} {Q : VK} (h : lift (rE K) K C t σ H Q) : lift (rF K) K C t σ H Q := by
  obtain ⟨F, O, ρ, R, q⟩ := h
  refine ⟨F, O, ρ, R, m _ _ _ (fun d k v H' F' s R' r => ?_) q⟩
  cases d with
  | list ds =>
    obtain ⟨a, vs, e, hA, h1, h2, h3, h4⟩ := r
    obtain ⟨n1, n2, n3, _, _⟩ := R.np hA
    refine k v H' _ (Stp.freeze hA s) (R'.freeze n1 n2 n3 (by rw [h3]; simp) (by rw [h3]; intro ps z; cases z) h2) ⟨a, vs, e, .inr rfl, h3, ?_⟩
    exact RdL.keep (fun b => Or.inl) (fun _ _ z => z) (fun _ _ _ z => z) _ _ h4
  | _ => exact r.elim
/-- name = [..], on one line -/
theorem psd_setLc {X : Cx} {C : Ct} (i : Nat) {y : Str} {py : Pos} {elt tg iter : Expr} {ifs : List Expr} {scope : Scope} {pos spos : Pos} {ti : TID} {tt : TTD} {te : TED} (g : Tgt) (own : List (Str × Nat)) (hc : X.calm = true) (hN : X.N.Nodup) (hi : DI X C tg iter ti) (ok : BlkOk X.N X.env.scope scope own)
    (hv : ∀ i ∈ g.ixs, i ∈ own.map (·.2))
    (hg : ∀ (s : Shared) (H : Hp) (A : Addr) (cl : List (Str × Addr)) (fp : List Addr), PG (X.blk s H scope (compEnvC scope cl A X.env) fp) tg (gTgt X.K g))
    (ht : ∀ (s : Shared) (H : Hp) (A : Addr) (cl : List (Str × Addr)) (fp : List Addr), DTs (X.blk s H scope (compEnvC scope cl A X.env) fp) C ifs tt)
    (he : ∀ (s : Shared) (H : Hp) (A : Addr) (cl : List (Str × Addr)) (fp : List Addr), PD (X.blk s H scope (compEnvC scope cl A X.env) fp) C elt te) (hy : X.N[i]? = some y := by rfl) (hyl : X.env.scope.names.lookup y = some .local := by rfl)
    (hsw : swapsWith (.ListComp elt [⟨tg, iter, ifs, 0⟩] scope pos) (some (.Name y py)) spos.line X.env = pure true := by rfl) (hs : ∀ x, foldedSetIterable iter X.env x = pure x := by intro _; rfl) :
    PSD X C (.Assign [.Name y py] (.ListComp elt [⟨tg, iter, ifs, 0⟩] scope pos) spos) (sSet i (dComp ti g tt te (own.map (·.2)))) := by
  have mt : MonoT tt := (ht X.s_0 (fun _ => none) 0 [] []).mono
  have me : MonoE te := (he X.s_0 (fun _ => none) 0 [] []).mono
  obtain ⟨m, im⟩ := comp_imp (K := X.K) (C := C) g own hi.mono hv mt me
  refine ⟨fun D D' ρ l => m _ _ _ fun d => l.nx _, ps_imp (ps_setLc (te := lift (rE X.K) X.K C te) (tt := liftT X.K C tt) hc hN hy hyl hsw hi.run ok hg (fun s H A cl fp => (ht s H A cl fp).run) (fun s H A cl fp => (he s H A cl fp).run) hs) fun D σ H ⟨F, O, ρ, R, q⟩ => im _ _ _ (lift_ofF m ?_)⟩
  exact ⟨F, O, ρ, R, m _ _ _ (fun d k v H' F' s R' r => k F' O _ H' (FSt.of R s) (R'.setV i r)) q⟩
theorem psd_setLcF {X : Cx} {C : Ct} (i : Nat) {y : Str} {py : Pos} {elt tg iter : Expr} {ifs : List Expr} {scope : Scope} {pos spos : Pos} {ti : TID} {tt : TTD} {te : TED} (g : Tgt) (own : List (Str × Nat)) (hc : X.calm = true) (hN : X.N.Nodup) (hi : DI X C tg iter ti) (ok : BlkOk X.N X.env.scope scope own)
    (hv : ∀ i ∈ g.ixs, i ∈ own.map (·.2))
    (hg : ∀ (s : Shared) (H : Hp) (A : Addr) (cl : List (Str × Addr)) (fp : List Addr), PG (X.blk s H scope (compEnvC scope cl A X.env) fp) tg (gTgt X.K g))
    (ht : ∀ (s : Shared) (H : Hp) (A : Addr) (cl : List (Str × Addr)) (fp : List Addr), DTs (X.blk s H scope (compEnvC scope cl A X.env) fp) C ifs tt)
    (he : ∀ (s : Shared) (H : Hp) (A : Addr) (cl : List (Str × Addr)) (fp : List Addr), PD (X.blk s H scope (compEnvC scope cl A X.env) fp) C elt te) (hy : X.N[i]? = some y := by rfl) (hyl : X.env.scope.names.lookup y = some .local := by rfl)
    (hsw : swapsWith (.ListComp elt [⟨tg, iter, ifs, 0⟩] scope pos) (some (.Name y py)) spos.line X.env = pure true := by rfl) (hs : ∀ x, foldedSetIterable iter X.env x = pure x := by intro _; rfl) :
    PSD X C (.Assign [.Name y py] (.ListComp elt [⟨tg, iter, ifs, 0⟩] scope pos) spos) (sSetF i (dComp ti g tt te (own.map (·.2)))) := by
  have mt : MonoT tt := (ht X.s_0 (fun _ => none) 0 [] []).mono
  have me : MonoE te := (he X.s_0 (fun _ => none) 0 [] []).mono
  obtain ⟨m, im⟩ := comp_imp (K := X.K) (C := C) g own hi.mono hv mt me
  refine ⟨fun D D' ρ l => m _ _ _ fun d h => by cases d <;> first | exact l.nx _ h | exact h.elim, ps_imp (ps_setLc (te := lift (rE X.K) X.K C te) (tt := liftT X.K C tt) hc hN hy hyl hsw hi.run ok hg (fun s H A cl fp => (ht s H A cl fp).run) (fun s H A cl fp => (he s H A cl fp).run) hs) fun D σ H ⟨F, O, ρ, R, q⟩ => im _ _ _ ?_⟩
  refine ⟨F, O, ρ, R, m _ _ _ (fun d k v H' F' s R' r => ?_) q⟩
  cases d <;> first | exact r.elim | skip
  obtain ⟨a, vs, ea, n, h1, h2, h3, h4⟩ := r
  subst ea
  obtain ⟨n1, n2, n3, _, _⟩ := R.np n
  exact k F' _ _ H' (FSt.of R s) (R'.setF i h1 h2 n1 n2 n3 h3 h4)
/-- a look at a block's names -/
def blkB (N : List Str) (sc scope : Scope) (own : List (Str × Nat)) : Bool :=
  decide (scope.kind = .function) && scope.names.all (fun y => decide (scope.names.lookup y.1 = some y.2)) && own.all (fun p => decide (N[p.2]? = some p.1)) &&
  scope.names.all (fun y => !decide (y.2 = .free) || decide (sc.names.lookup y.1 = some .cell) || decide (sc.names.lookup y.1 = some .free)) &&
  scope.names.all (fun y => !(decide (y.2 = .local) || decide (y.2 = .cell)) || decide (y.1 ∈ own.map (·.1)) || !decide (y.1 ∈ N))
theorem blk_by {N : List Str} {sc scope : Scope} {own : List (Str × Nat)} (h : blkB N sc scope own = true) : BlkOk N sc scope own := by
  unfold blkB at h
  simp only [Bool.and_eq_true, decide_eq_true_eq, List.all_eq_true, Bool.or_eq_true, Bool.not_eq_true', decide_eq_false_iff_not, Bool.or_eq_false_iff] at h
  obtain ⟨⟨⟨⟨h1, h2⟩, h3⟩, h4⟩, h5⟩ := h
  refine ⟨h1, h2, h3, fun y hy e => ?_, fun y hy e => ?_⟩
  · rcases h4 y hy with (z | z) | z
    · exact absurd e z
    · exact .inl z
    · exact .inr z
  · rcases h5 y hy with (z | z) | z
    · rcases e with e | e
      · exact absurd e z.1
      · exact absurd e z.2
    · exact .inl z
    · exact .inr z
end DL

namespace DL
open PySem PySem.Spec PyProof.Rows L2

/-! ### a def by its body -/
def argSlot : Arg → Slot
  | .dat d => .val d
  | .raw v => .raw v
  | .deck => .deck
def startD (N : List Str) (as : List Arg) : List Slot := as.map argSlot ++ List.replicate (N.length - as.length) .un
abbrev never : XP := fun _ _ _ => False
theorem xo_none {X : Cx} {C : Ct} : XO X C never (L2.CX X.prog X.w) E0 := ⟨passL, fun _ _ _ h => h.elim⟩
def pxOf (K : PySem.W.Frag) (C : Ct) (E : XK) : XP := fun c nm d => ∀ dx v H' S', Stp C.q C.S0 S' C.H0 H' → DkOk C.q H' → LamX.Tabs C.q.w.T H' → FzOk C.q S' H' → H' dx = some (.xd [(nm, v)]) → Rdd K S' H' d v → E (.ref c) (some dx) H'
def wishOf (K : PySem.W.Frag) (C : Ct) (Q : VK) : D → Prop := fun d => ∀ v H' S', Stp C.q C.S0 S' C.H0 H' → DkOk C.q H' → LamX.Tabs C.q.w.T H' → FzOk C.q S' H' → Rdd K S' H' d v → Q v H'
theorem ArgsR.len {K : PySem.W.Frag} {q : Dq} {F : Addr → Prop} {H : Hp} : ∀ {as : List Arg} {vs : List V}, ArgsR K q F H as vs → vs.length = as.length
  | [], _, h => by rw [show _ = [] from h]; rfl
  | a :: as, _, ⟨v, r, e, _, h⟩ => by rw [e, List.length_cons, List.length_cons, ArgsR.len (as := as) h]
theorem ArgsR.get {K : PySem.W.Frag} {q : Dq} {F : Addr → Prop} {H : Hp} : ∀ {as : List Arg} {vs : List V} {i : Nat} {a : Arg}, ArgsR K q F H as vs → as[i]? = some a → ∃ v, vs[i]? = some v ∧ ArgR K q F H a v
  | [], _, _, _, _, e => by simp at e
  | a :: as, _, 0, _, ⟨v, r, e, h1, _⟩, e' => by simp at e'; subst e'; exact ⟨v, by rw [e]; rfl, h1⟩
  | a :: as, _, i + 1, _, ⟨v, r, e, _, h2⟩, e' => by
    obtain ⟨u, hu, hr⟩ := ArgsR.get (as := as) (i := i) h2 (by simpa using e')
    exact ⟨u, by rw [e]; simpa using hu, hr⟩
theorem rel_start {K : PySem.W.Frag} {q : Dq} {S : Addr → Prop} {H : Hp} {as : List Arg} {vs : List V} (N : List Str) (hd : DkOk q H) (ht : LamX.Tabs q.w.T H) (hf : FzOk q S H) (ra : ArgsR K q S H as vs) : Rel K ⟨q, H, S⟩ S (fun _ => []) (startD N as) (L2.start N vs) H where
  ln := by
    unfold startD L2.start
    simp only [List.length_append, List.length_map, List.length_replicate, ra.len]
    exact Nat.le_refl _
  dk := hd
  tb := ht
  fz := hf
  kp := KpX.refl _ _
  up := fun _ h => h
  nw := fun _ h => .inl h
  sl := fun i s e => by
    have hl := ra.len
    by_cases hi : i < as.length
    · unfold startD at e
      rw [List.getElem?_append_left (by simpa using hi), List.getElem?_map] at e
      cases ea : as[i]? with
      | none => rw [ea] at e; cases e
      | some a =>
        rw [ea] at e
        cases e
        obtain ⟨v, hv, hr⟩ := ra.get ea
        have z : (L2.start N vs)[i]? = some (some v) := by
          unfold L2.start
          rw [List.getElem?_append_left (by rw [List.length_map, hl]; exact hi), List.getElem?_map, hv]; rfl
        rw [z]
        cases a with
        | dat d => exact ⟨v, rfl, hr⟩
        | raw u => cases hr; rfl
        | deck => cases hr; rfl
    · unfold startD at e
      rw [List.getElem?_append_right (by simpa using hi), List.getElem?_replicate] at e
      split at e
      · cases e; exact True.intro
      · cases e
  oo := fun i a ha => nomatch ha
  dj := fun i j _ a ha => nomatch ha
theorem FnR.mono {G G' : Around → Prop} {P : Program} {w : World} {K : PySem.W.Frag} {mg : Str → Option Value} {base : Heap} {CX : CXT} {k j : Nat} {f : Addr} {fd : FuncData} {ps : List Str} {sp : Sp} (F : FnR G P w K mg base CX j f fd ps sp) (h : j ≤ k) (g : ∀ A, G' A → G A) : FnR G' P w K mg base CX k f fd ps sp :=
  ⟨F.len, fun A outer s H args us vs Q E hr hg => F.run A outer s H args us vs Q E (hr.mono h) (g A hg)⟩
/-- a def keeps its promise -/
theorem fnr_mk {G : Around → Prop} {P : Program} {w : World} {K : PySem.W.Frag} {mg : Str → Option Value} {base : Heap} {k : Nat} {f : Addr} {x qual : Str} {st : Stmt} {fd : FuncData} {N ps : List Str} {wd : Wd} {Fd : FD}
    (F : L2.Fun K x qual st f fd) (S : FnScope N ps (defScope st)) (hGd : ∀ A env, G A → G (A.deeper env)) (len : ∀ as Q Z, Fd.run as Q Z → as.length = ps.length)
    (hbody : ∀ (cdv : Value), fd.code = cdv → ∀ (A : Around) (outer : List Env) (s : Shared) (H : Hp) (E : XK) (C : Ct) (px : XP), Room k (A.deeper (envOfC qual (defScope st) s.heap.objs.size f cdv)) → G (A.deeper (envOfC qual (defScope st) s.heap.objs.size f cdv)) → C.q.w = wd →
      XO (cxOf (L2.CX P w) P w K mg base N qual (defScope st) f cdv A outer s H E) C px (L2.CX P w) E →
      ∀ as Q, Fd.run as Q px → ∃ t, PSDs (cxOf (L2.CX P w) P w K mg base N qual (defScope st) f cdv A outer s H E) C (defBody st) t ∧ t { nx := fun _ => Q .none, rt := Q } (startD N as)) :
    FnR G P w K mg base (L2.CX P w) (k + 1) f fd ps (spD K wd Fd) := by
  obtain ⟨oc, od, kV, doc, pm, an, cdv, ct, osl, rfl, lk, hcd⟩ := F.ex
  have hlen : ∀ vs H Q E, spD K wd Fd vs H Q E → vs.length = ps.length := fun vs H Q E ⟨q, S, as, _, _, _, _, ra, hr⟩ => by rw [ra.len]; exact len _ _ _ hr
  refine ⟨hlen, fun A outer s H args us vs Q E hr hg e0 hb r hsp => ?_⟩
  refine LamX.run_ofS (N := N) (ps := ps) (us := us) (vs := vs) lk hcd S hr e0 hb r (hlen _ _ _ _ hsp) fun hr' => ?_
  obtain ⟨q, S0, as, rfl, hd, ht, hf, ra, hrun⟩ := hsp
  obtain ⟨t, hp, hq⟩ := hbody cdv rfl A outer s H E ⟨q, H, S0⟩ (pxOf K ⟨q, H, S0⟩ E) hr' (hGd _ _ hg) rfl
    ⟨fun pins σ H1 s1 e s' I c => passes_call (L2.takes_of rfl rfl rfl rfl) (fun _ _ _ _ h => h) pins σ H1 s1 e s' I c,
      fun c nm d h dx v F O ρ σ H' R e r => h dx v H' F ⟨R.kp, R.up, R.nw⟩ R.dk R.tb R.fz e r⟩ as (wishOf K ⟨q, H, S0⟩ Q) hrun
  refine ⟨_, hp.run, S0, fun _ => [], startD N as, rel_start N hd ht hf ra, hp.mono { nx := fun _ => wishOf K ⟨q, H, S0⟩ Q .none, rt := wishOf K ⟨q, H, S0⟩ Q } _ _ ⟨fun ρ h F' O' σ' H' s R => ?_, fun d h v F' O' ρ' σ' H' s R r => ?_, fun _ h => h.elim, fun _ h => h.elim⟩ hq⟩
  · exact h .non H' F' ⟨R.kp, R.up, R.nw⟩ R.dk R.tb R.fz rfl
  · exact h v H' F' ⟨R.kp, R.up, R.nw⟩ R.dk R.tb R.fz r
theorem own_of {P : Program} {w : World} {K : PySem.W.Frag} {mg : Str → Option Value} {base : Heap} {N : List Str} {qual : Str} {scope : Scope} {f : Addr} {cd : Value} {A : Around} {outer : List Env} {s : Shared} {H : Hp} {E : XK} :
    PassesOwn (model P w) (cxOf (L2.CX P w) P w K mg base N qual scope f cd A outer s H E).A (cxOf (L2.CX P w) P w K mg base N qual scope f cd A outer s H E).env (cxOf (L2.CX P w) P w K mg base N qual scope f cd A outer s H E).xe :=
  passes_of rfl
/-- no repr of an outer thing is under way -/
def NoGu (A : Around) : Prop := A.guards = some []
theorem noGu_deeper (A : Around) (env : Env) (h : NoGu A) : NoGu (A.deeper env) := h
abbrev Tru : Around → Prop := fun _ => True
theorem tru_deeper (A : Around) (env : Env) (h : Tru A) : Tru (A.deeper env) := True.intro
end DL

namespace DL
open PySem PySem.Spec PyProof.Rows L2

/-! ### t[::-1] of a tuple -/
theorem backAdjust (n : Nat) : Builtin.Slice.sliceAdjust none none (-1) (n : Int) = ((n : Int) - 1, -1) := by
  unfold Builtin.Slice.sliceAdjust
  rfl
theorem backPlaces (n : Nat) : Builtin.Slice.slicePlaces ((n : Int) - 1) (-1) (-1) = n := by
  unfold Builtin.Slice.slicePlaces
  rw [if_neg (by decide)]
  by_cases h : n = 0
  · subst h; decide
  · rw [if_pos (by omega)]
    have : ((n : Int) - 1 - -1 - 1) / - -1 + 1 = n := by
      rw [show -(-1 : Int) = 1 from rfl, Int.ediv_one]
      omega
    rw [this]
    exact Int.toNat_natCast n
theorem fm_eq {α β : Type} {f : α → Option β} {g : α → β} : ∀ {l : List α}, (∀ x ∈ l, f x = some (g x)) → l.filterMap f = l.map g
  | [], _ => rfl
  | a :: l, h => by rw [List.filterMap_cons_some (h a List.mem_cons_self), List.map_cons, fm_eq fun x hx => h x (List.mem_cons_of_mem _ hx)]
theorem backPick (xs : Array Value) : ((List.range xs.size).filterMap fun (m : Nat) => xs[(((xs.size : Int) - 1) + (m : Int) * (-1)).toNat]?).toArray = xs.toList.reverse.toArray := by
  congr 1
  apply List.ext_getElem?
  intro i
  have e : (List.range xs.size).filterMap (fun (m : Nat) => xs[(((xs.size : Int) - 1) + (m : Int) * (-1)).toNat]?) = (List.range xs.size).map fun m => xs.getD (xs.size - 1 - m) .none := by
    refine fm_eq fun m hm => ?_
    have hm := List.mem_range.mp hm
    have : (((xs.size : Int) - 1) + (m : Int) * (-1)).toNat = xs.size - 1 - m := by omega
    rw [this]
    have h2 : xs.size - 1 - m < xs.size := by omega
    simp [Array.getD, h2]
  rw [e]
  by_cases hi : i < xs.size
  · rw [List.getElem?_map, List.getElem?_range hi, List.getElem?_reverse (by simpa using hi)]
    have h2 : xs.size - 1 - i < xs.size := by omega
    simp [Array.getD, h2]
  · rw [List.getElem?_eq_none (by simpa using Nat.le_of_not_lt hi), List.getElem?_eq_none (by simpa using Nat.le_of_not_lt hi)]
section
variable {prog : Program} {w : World} {A : Around} {E : Value → Shared → Prop} {s : Shared}
theorem sliceBack {sl : Addr} {vs : Value} {n : Nat} {Q : Int × Int × Nat → Shared → Prop} (hs : s.heap.IsSliceOf sl .none .none vs) (ps : IsPart vs (some (-1))) (h : Q ((n : Int) - 1, -1, n) s) : wpAny (model prog w) A (Builtin.Slice.sliceApplied (.ref sl) (pure (n : Int))) Q E s := by
  obtain ⟨os, hos, hcs, hds⟩ := id hs
  unfold Builtin.Slice.sliceApplied Builtin.Slice.sliceFields
  refine wpAny_bind (wpAny_bind (wpAny_field hos hds (x := .none) rfl (wpAny_bind (wpAny_field hos hds (x := .none) rfl (wpAny_bind (wpAny_field hos hds (x := vs) rfl (wpAny_pure ?_)))))))
  refine wpAny_bind (HT.slicePart_ ps ?_)
  show wpAny _ _ (if ((-1 : Int) == 0) = true then _ else _) _ _ s
  rw [if_neg (by decide)]
  refine wpAny_bind (slicePart_none (wpAny_bind (slicePart_none (wpAny_bind (wpAny_pure ?_)))))
  show wpAny _ _ (match Builtin.Slice.sliceAdjust none none (-1) (n : Int) with | (lo, hi) => pure (lo, (-1 : Int), Builtin.Slice.slicePlaces lo hi (-1))) _ _ s
  rw [backAdjust n]
  show wpAny _ _ (pure (((n : Int) - 1), (-1 : Int), Builtin.Slice.slicePlaces ((n : Int) - 1) (-1) (-1))) _ _ s
  rw [backPlaces]
  exact wpAny_pure h
theorem tupBack {t sl : Addr} {items : Array Value} {vs : Value} {Q : Value → Shared → Prop} (ht : IsTup s.heap t items) (hs : s.heap.IsSliceOf sl .none .none vs) (ps : IsPart vs (some (-1)))
    (h : Q (.ref s.heap.objs.size) { s with heap := s.heap.push { cls := .type "tuple", data := .seq items.toList.reverse.toArray } }) (hsz : items.size ≤ sizeLine) : wpAny (model prog w) A (getItem (.ref t) (.ref sl)) Q E s := by
  have hfit : sizeOk (.seq items.toList.reverse.toArray) := by
    show items.toList.reverse.toArray.size ≤ sizeLine
    simpa using hsz
  obtain ⟨os, hos, hcs, hds⟩ := id hs
  have hTs : s.TypeIs (.ref sl) "slice" := ⟨os, hos, hcs⟩
  unfold getItem
  try with_reducible refine wpAny_holding ?_
  first | refine wpAny_bind (wpAny_pure ?_) | skip
  refine wpAny_bind (wpAny_sequenceKey ht.typeIs (by decide) ?_)
  refine wpAny_bind (wpAny_callSpecial?_slot (name := Str.ofString "__getitem__") ht.typeIs PyProof.Rows.slot_tuple_getitem
    (wpAny_call_entry PyProof.Rows.slot_tuple_getitem ht.typeIs entry_tuple_getitem ?_ (args_tuple_getitem _ _)))
  show wpAny _ _ (Builtin.Tuple.tupleItemsOf (.ref t) >>= _) _ _ s
  refine wpAny_bind (tupleItemsOf_ ht ?_)
  refine wpAny_bind (wpAny_typeOf hTs ?_)
  rw [if_pos (by decide)]
  refine wpAny_bind (sliceBack hs ps ?_)
  have hno : ¬ ((((items.size : Int) - 1) == 0 && (-1 : Int) == 1 && items.size == items.size) = true) := by
    intro q
    rw [Bool.and_eq_true, Bool.and_eq_true] at q
    exact absurd (eq_of_beq q.1.2) (by decide)
  show wpAny _ _ (if ((((items.size : Int) - 1) == 0 && (-1 : Int) == 1 && items.size == items.size) = true) then _ else _) _ _ s
  rw [if_neg hno, backPick]
  first
    | exact wpAny_bind (m := Builtin.Tuple.tupleExact _) (wpAny_newObj_type (wpAny_pure ⟨_, rfl, wpAny_pure h⟩) hfit)
    | exact wpAny_bind (m := Builtin.Tuple.tupleExact _) (wpAny_newObj_type (wpAny_bind (wpAny_pure (wpAny_pure ⟨_, rfl, wpAny_pure h⟩))) hfit)
    | exact wpAny_bind (wpAny_bind (m := Builtin.Tuple.tupleExact _) (wpAny_newObj_type (wpAny_pure (wpAny_pure ⟨_, rfl, wpAny_pure h⟩)) hfit))
    | exact wpAny_bind (wpAny_bind (m := Builtin.Tuple.tupleExact _) (wpAny_newObj_type (wpAny_pure ⟨_, rfl, wpAny_pure h⟩) hfit))
end
def tRevT (K : PySem.W.Frag) (te : TE) : TE := fun σ H Q => te σ H fun x H1 => ∃ a xs, x = .ref a ∧ SqT K H1 a xs ∧ ∀ p, H1 p = none → Q (.ref p) (upd H1 p (.tup xs.reverse))
theorem pe_revT {X : Cx} {e : Expr} {te : TE} {k : Nat} {p1 p2 p3 pos : Pos} (he : PE X e te) : PE X (.Subscript e (.Slice none none (some (.UnaryOp .USub (.Constant (.int 1) k p1) p2)) p3) pos) (tRevT X.K te) := by
  refine ⟨fun pins s σ H Q I h => ?_⟩
  refine Subscript_ (thn (he.run pins s σ H _ I h) fun v s1 ⟨x, H1, I1, r1, q1⟩ => ?_)
  obtain ⟨a, xs, rfl, hx, q⟩ := q1
  cases r1
  have hst : L2.PO X (some (.UnaryOp .USub (.Constant (.int 1) k p1) p2)) (tPart (tUn (rU fun i => .int (-i)) (tC (.int 1)))) := po_some (pe_un un_neg pe_int)
  refine wpAny_Slice (thn (po_none.run pins s1 σ H1 (fun o H2 => o = none ∧ H2 = H1) I1 ⟨rfl, rfl⟩) fun vl s2 ⟨l, H2, I2, pl, el, e2⟩ => ?_)
  subst el e2
  refine thn (po_none.run pins s2 σ H2 (fun o H3 => o = none ∧ H3 = H2) I2 ⟨rfl, rfl⟩) fun vu s3 ⟨u, H3, I3, pu, eu, e3⟩ => ?_
  subst eu e3
  refine thn (hst.run pins s3 σ H3 (fun o H4 => o = some (-1) ∧ H4 = H3) I3 ⟨1, rfl, -1, rfl, rfl, rfl⟩) fun vs s4 ⟨o, H4, I4, ps, eo, e4⟩ => ?_
  subst eo e4
  have I5 : Inv X pins σ H4 { s4 with heap := s4.heap.push { cls := .type "slice", data := .fields #[vl, vu, vs] } } := I4.kept (t' := s4.toks) fun b ob q => Heap.get?_push_of_some _ q
  obtain ⟨its, r, ht, hz⟩ := I5.tuple hx
  cases pl
  cases pu
  show wpAny (model X.prog X.w) X.A (subscriptTail e (.Slice none none (some (.UnaryOp .USub (.Constant (.int 1) k p1) p2)) p3) (.ref a) (.ref s4.heap.objs.size)) (EP X pins σ Q) X.xe { s4 with heap := s4.heap.push { cls := .type "slice", data := .fields #[.none, .none, vs] } }
  refine tail_any (ops := [.ref a, .ref s4.heap.objs.size]) ht.typeIs (PyProof.Rows.slot_tuple_getitem.lookup) ?_ (by with_unfolding_all rfl)
  refine tupBack ht (Heap.IsSliceOf.new _ .none .none vs) ps ?_ (by rw [List.size_toArray, ← r.length]; exact hz)
  refine ⟨.ref _, _, I5.laid (t' := s4.toks) (o := .tup xs.reverse) (fun b ob q => Heap.get?_push_of_some _ q) (Nat.le_refl _) ?_, rfl, q _ (I5.hok.fresh (Nat.le_refl _))⟩
  refine ⟨by rw [List.length_reverse]; exact hz, _, r.reverse, ?_⟩
  exact IsTup.new _ _
def gRevT : D → (D → Prop) → Prop
  | .tuple ds, P => P (.tuple ds.reverse)
  | _, _ => False
section
variable {X : Cx} {C : Ct} {e : Expr} {te : TED}
theorem pd_revT {k : Nat} {p1 p2 p3 pos : Pos} (he : PO X C e te) : PD X C (.Subscript e (.Slice none none (some (.UnaryOp .USub (.Constant (.int 1) k p1) p2)) p3) pos) (dUn gRevT te) :=
  pv_1 (r := fun x H Q => ∃ a xs, x = .ref a ∧ SqT X.K H a xs ∧ ∀ p, H p = none → Q (.ref p) (upd H p (.tup xs.reverse))) pe_revT (fun {F O ρ σ H x v Q} R rx h => by
    cases x <;> first | exact h.elim | skip
    obtain ⟨a, vs, e1, t1, r1⟩ := rx
    refine ⟨a, vs, e1, t1, fun p n => ?_⟩
    obtain ⟨s, R', r⟩ := new_tup R r1.rev n
    exact h _ _ _ s R' r) (fun x P P' k h => by cases x <;> first | exact h.elim | exact k _ h) he
end
end DL

namespace DL
open PySem PySem.Spec PyProof.Rows L2

/-! ### isinstance -/
def tyN : D → String
  | .none => "NoneType"
  | .bool _ => "bool"
  | .int _ => "int"
  | .str _ => "str"
  | .tuple _ => "tuple"
  | .list _ => "list"
  | .dict _ => "dict"
def isaN (t T : String) : Bool := t == T || (t == "bool" && T == "int")
abbrev isa (d : D) (T : String) : Bool := isaN (tyN d) T
def kitsFor (T : String) : Prop := ∀ d : D, kitB (tyN d) T = some (isa d T)
theorem kits_of {T : String} (h : ["NoneType", "bool", "int", "str", "tuple", "list", "dict"].all (fun t => decide (kitB t T = some (isaN t T))) = true) : kitsFor T := fun d => by
  have key : tyN d ∈ ["NoneType", "bool", "int", "str", "tuple", "list", "dict"] := by cases d <;> simp [tyN]
  exact of_decide_eq_true (List.all_eq_true.mp h _ key)
theorem kits_int : kitsFor "int" := kits_of (by decide +kernel)
theorem kits_bool : kitsFor "bool" := kits_of (by decide +kernel)
theorem kits_tuple : kitsFor "tuple" := kits_of (by decide +kernel)
theorem kits_list : kitsFor "list" := kits_of (by decide +kernel)
theorem kits_str : kitsFor "str" := kits_of (by decide +kernel)
theorem kits_dict : kitsFor "dict" := kits_of (by decide +kernel)
theorem tyx_of {K : PySem.W.Frag} {F : Addr → Prop} {O : Fps} {H₀ H : Hp} {d : D} {v : V} (r : rO K F O H₀ H d v) : TyX K H v (.type (tyN d)) := by
  cases d with
  | none => cases r; exact .base .non
  | bool b => cases r; exact .base (.bl _)
  | int i => cases r; exact .base (.int _)
  | str x => cases r; exact .base (.str _)
  | tuple ds =>
    obtain ⟨a, vs, rfl, t, _⟩ := r
    rcases t with (t | ⟨o, t⟩) | ⟨o, its, n, e, c, _⟩
    · exact .base (.tup t)
    · exact .fTuple t
    · exact .kTuple e c
  | list ds =>
    obtain ⟨a, vs, rfl, _, t, _⟩ := r
    exact .base (.lst t)
  | dict kvs =>
    obtain ⟨a, ps, rfl, _, t, _⟩ := r
    exact .base (.dK t)
def gIsi (T : String) : D → (D → Prop) → Prop := fun d P => P (.bool (isa d T))
theorem mo_gIsi {T : String} : Mo1 (gIsi T) := fun x P P' k h => k _ h
section
variable {X : Cx} {C : Ct} {e a b : Expr} {te ta tb : TED} {p p2 pos : Pos}
theorem pd_isi (T : String) {x : Str} (kt : kitsFor T) (hg : Gl X "isinstance") (hm : X.mg "isinstance" = none) (hg2 : Gl X x) (hm2 : X.mg x = none) (hv2 : bootBuiltins x = some (.type T)) (he : PO X C e te) (hn2 : x ≠ "__name__" := by decide) (hd2 : (x == ("__debug__" : Str)) = false := by decide)
    (hs : starEach [e, .Name x p2] X.env = (false, eval e X.env) :: starEach [.Name x p2] X.env := by rfl) (hs2 : starEach [.Name x p2] X.env = (false, eval (.Name x p2) X.env) :: starEach [] X.env := by rfl)
    (hpl : (backTo pos (starEach [.Name x p2] X.env)).any (·.1) = false := by rfl) : PD X C (.Call (.Name "isinstance" p) [e, .Name x p2] [] pos) (dUn (gIsi T) te) :=
  pv_1 (r := fun v H Q => rIsi X.K [v, .ty T] H Q) (fun {t} h => pe_imp (pe_callB call_isi hg hm (by decide +kernel) (pa_cons h (pa_cons (pe_bltn (v := .ty T) hg2 hm2 hv2 rfl hn2 hd2) pa_nil hs2) hs) (by decide) (by decide) hs hpl) fun σ H Q q => q)
    (fun {F O ρ σ H x v Q} R rx h => ⟨v, .ty T, .type (tyN x), .type T, isa x T, rfl, .ty T, tyx_of rx, kit_ty (kt x), h _ _ _ (Stp.refl _ _ _) R rfl⟩) mo_gIsi he
/-! xs == [], xs != [] for a list of any things -/
def gNil (neg : Bool) : D → (D → Prop) → Prop
  | .list ds, P => P (.bool (if neg then !ds.isEmpty else ds.isEmpty))
  | _, _ => False
theorem mo_gNil {neg : Bool} : Mo1 (gNil neg) := fun x P P' k h => by cases x <;> first | exact h.elim | exact k _ h
def rEqNil (K : PySem.W.Frag) (neg : Bool) : R2 := fun x y H Q => ∃ a b xs, x = .ref a ∧ y = .ref b ∧ SqL K H a xs ∧ H b = some (.lst []) ∧ Q (.bl (if neg then !xs.isEmpty else xs.isEmpty)) H
theorem nil_lists {pins : List (Addr × Obj)} {σ : L2.St} {H : Hp} {s : Shared} {a b : Addr} {xs : List V} (I : Inv X pins σ H s) (ha : SqL X.K H a xs) (hb : H b = some (.lst [])) :
    ∃ its n o, Vals xs its ∧ s.heap.get? a = some o ∧ o.cls = .type "list" ∧ o.data = .seq its.toArray n ∧ s.heap.IsList a its.toArray ∧ s.heap.IsList b #[] ∧ ∃ n2 o2, s.heap.get? b = some o2 ∧ o2.cls = .type "list" ∧ o2.data = .seq #[] n2 := by
  obtain ⟨its, rv, p1, hz⟩ := I.list ha
  obtain ⟨its2, rv2, p2, hz2⟩ := I.list (SqL.of hb : SqL X.K H b [])
  cases rv2
  have q1 := p1.isList
  have q2 := p2.isList
  obtain ⟨o1, n1, e1, c1, d1, w1⟩ := p1
  obtain ⟨o2, n2, e2, c2, d2, w2⟩ := p2
  exact ⟨its, n1, o1, rv, e1, c1, w1, q1, q2, n2, o2, e2, c2, w2⟩
theorem op_eqNil (hu : X.A.units + 64 < cLine) : OpR X (compareOp .Eq) (rEqNil X.K false) := by
  intro pins s σ H x y v u Q I rx ry h
  obtain ⟨a, b, xs, rfl, rfl, ha, hb, q⟩ := h
  cases rx
  cases ry
  obtain ⟨its, n, o, rv, e1, c1, d1, l1, l2, n2, o2, e2, c2, d2⟩ := nil_lists I ha hb
  cases xs with
  | nil =>
    cases rv
    exact SeqAt.compareEq_shaped (Reads.list e1 c1 d1 .nil) (Reads.list e2 c2 d2 .nil) (by decide) (by decide) hu ⟨.bl _, H, I, rfl, q⟩
  | cons x xs =>
    cases rv with
    | cons r0 rr => exact SeqAt.eq_list_lengthsAt l1 l2 (by simp) (by omega) ⟨.bl _, H, I, rfl, q⟩
theorem op_neNil (hu : X.A.units + 64 < cLine) : OpR X (compareOp .NotEq) (rEqNil X.K true) := by
  intro pins s σ H x y v u Q I rx ry h
  obtain ⟨a, b, xs, rfl, rfl, ha, hb, q⟩ := h
  cases rx
  cases ry
  obtain ⟨its, n, o, rv, e1, c1, d1, l1, l2, n2, o2, e2, c2, d2⟩ := nil_lists I ha hb
  cases xs with
  | nil =>
    cases rv
    exact SeqAt.compareNe_shaped (Reads.list e1 c1 d1 .nil) (Reads.list e2 c2 d2 .nil) (by decide) (by decide) hu ⟨.bl _, H, I, rfl, q⟩
  | cons x xs =>
    cases rv with
    | cons r0 rr => exact SeqAt.RcNeAt.lists_lengths l1 l2 (by simp) (by omega) X.prog X.w X.xe _ ⟨.bl _, H, I, rfl, q⟩
end
theorem room_u {k : Nat} {A : Around} (r : Room k A) : A.units + 64 < cLine := by have := r.un; omega
section
variable {X : Cx} {C : Ct} {e a b : Expr} {te ta tb : TED} {p p2 pos : Pos}
def dEqNil (neg : Bool) (te : TED) : TED := fun ρ P => te ρ fun d => gNil neg d P
theorem by_nil {neg : Bool} {F : Addr → Prop} {O : Fps} {ρ : List Slot} {σ : L2.St} {H H1 : Hp} {x : D} {v : V} {Q : VK} {b : Addr} (R : Rel X.K C F O ρ σ H1) (rx : rO X.K F O H H1 x v) (hb : H1 b = some (.lst [])) (h : gNil neg x fun z => ∀ vz, Rdd X.K F H1 z vz → Q vz H1) : rEqNil X.K neg v (.ref b) H1 Q := by
  cases x <;> first | exact h.elim | skip
  obtain ⟨a, vs, rfl, _, hl, r⟩ := rx
  refine ⟨a, b, vs, rfl, rfl, SqL.of hl, hb, ?_⟩
  have e : vs.isEmpty = ‹List D›.isEmpty := by
    have := r.len
    cases vs <;> cases ‹List D› <;> first | rfl | (simp at this)
  rw [e]
  exact h _ rfl
theorem run_nil {neg : Bool} {op : CmpOp} (ho : OpR X (compareOp op) (rEqNil X.K neg)) (he : PO X C e te) (hnm : ∀ {t u : TE}, PE X e t → PE X (.List [] p2) u → PE X (.Compare e [op] [.List [] p2] pos) (tOp (rEqNil X.K neg) t u)) : PD X C (.Compare e [op] [.List [] p2] pos) (dEqNil neg te) := by
  refine ⟨fun ρ P P' k => he.mono _ _ _ fun d => mo_gNil d _ _ k, pe_imp (hnm he.run (pe_lst pa_nil)) fun σ H Q ⟨F, O, ρ, R, q⟩ => ⟨F, O, ρ, R, he.mono _ _ _ (fun d k v H1 F1 s1 R1 r1 => ?_) q⟩⟩
  refine ⟨Nat.zero_le _, fun p n => ?_⟩
  have R2 := R1.new (o := .lst []) n
  refine by_nil (H := H1) R2 ?_ upd_same (mo_gNil d _ _ (fun z hz vz rz => hz vz _ F1 (s1.trans (Stp.new n)) R2 rz) k)
  have z := rO_stp R1 (Stp.new (o := .lst []) n) (show rO X.K F1 O H1 H1 d v from by cases d <;> exact r1)
  cases d <;> exact z
theorem pd_eqNil (hu : X.A.units + 64 < cLine) (he : PO X C e te) : PD X C (.Compare e [.Eq] [.List [] p2] pos) (dEqNil false te) := run_nil (op_eqNil hu) he fun h h' => pe_cmpR (op_eqNil hu) h h' (nomark _)
theorem pd_neNil (hu : X.A.units + 64 < cLine) (he : PO X C e te) : PD X C (.Compare e [.NotEq] [.List [] p2] pos) (dEqNil true te) := run_nil (op_neNil hu) he fun h h' => pe_cmpR (op_neNil hu) h h' (nomark _)
/-! list * int -/
def gRep : D → D → (D → Prop) → Prop
  | .list ds, .int k, P => (0 ≤ k ∧ k ≤ 1000000 ∧ ds.length * k.toNat ≤ sizeLine) ∧ P (.list (List.replicate k.toNat ds).flatten)
  | _, _, _ => False
theorem mo_gRep : Mo2 gRep := fun x y P P' k h => by
  cases x <;> first | exact h.elim | (cases y <;> first | exact h.elim | exact ⟨h.1, k _ h.2⟩)
theorem RdL.rep {K : PySem.W.Frag} {S : Addr → Prop} {H : Hp} {ds : List D} {vs : List V} (r : RdL K S H ds vs) : ∀ n : Nat, RdL K S H (List.replicate n ds).flatten (List.replicate n vs).flatten := fun n => by
  induction n with
  | zero => exact rfl
  | succ n ih => rw [List.replicate_succ, List.flatten_cons, List.replicate_succ, List.flatten_cons]; exact r.append ih
theorem pf_rep (ha : PO X C a ta) (hb : PO X C b tb) : PF X C (.BinOp a .Mult b pos) (dBi gRep ta tb) := pv_2 (pe_op op_rep) (fun {F O ρ σ H x y v u Q} R rx ry h => by
  cases x <;> first | exact h.elim | skip
  cases y <;> first | exact h.elim | skip
  obtain ⟨l, xs, rfl, _, hl, r⟩ := rx
  obtain ⟨⟨h1, h2, h3⟩, q⟩ := h
  refine ⟨l, _, xs, rfl, ry, hl, by omega, by omega, by rw [r.len]; exact h3, fun p n => ?_⟩
  obtain ⟨s, R', r'⟩ := new_lst R (r.rep _) n
  exact q _ _ _ s R' r') mo_gRep ha hb
end
end DL

namespace DL
open PySem PySem.Spec PyProof.Rows L2

/-! ### repr of data -/
section
variable {X : Cx} {pins : List (Addr × Obj)} {σ : L2.St} {H : Hp} {s : Shared} {S : Addr → Prop}
theorem reads_key {key : Key} {u : Value} (h : (mixKind X.prog X.w).is key u = true) : ∃ as, Reads s.heap u (kD key) as ∧ sysModules ∉ as := by
  rcases keyIs_shape h with ⟨i, t, rfl, rfl⟩ | ⟨x, t, rfl, rfl⟩
  · exact ⟨[], Reads.int i t, nofun⟩
  · exact ⟨[], Reads.str x t, nofun⟩
mutual
theorem Rdd.reads (I : Inv X pins σ H s) (hs : ∃ o φ, H sysModules = some (.frz o (.ext φ))) : ∀ (d : D) (v : V) (u : Value), Rdd X.K S H d v → RelV v u → ∃ as, Reads s.heap u d as ∧ sysModules ∉ as
  | .none, _, _, h, r => by
    cases h; cases r
    exact ⟨[], Reads.none, nofun⟩
  | .bool b, _, _, h, r => by
    cases h; cases r
    exact ⟨[], Reads.bool b, nofun⟩
  | .int i, _, _, h, r => by
    cases h
    obtain ⟨t, rfl⟩ := r
    exact ⟨[], Reads.int i t, nofun⟩
  | .str x, _, _, h, r => by
    cases h
    obtain ⟨t, rfl⟩ := r
    exact ⟨[], Reads.str x t, nofun⟩
  | .tuple ds, _, _, ⟨a, vs, e, ht, hr⟩, r => by
    subst e
    cases r
    obtain ⟨its, rv, ⟨o, ho, hc, n, hd⟩, _⟩ := I.tuple ht
    obtain ⟨as, q, z⟩ := RdL.reads I hs ds vs its hr rv
    exact ⟨as, Reads.tuple ho hc hd q, z⟩
  | .list ds, _, _, ⟨a, vs, e, hS, hl, hr⟩, r => by
    subst e
    cases r
    obtain ⟨its, rv, p, _⟩ := I.list (SqL.of hl : SqL X.K H a vs)
    obtain ⟨o, n, ho, hc, _, hd⟩ := p
    obtain ⟨as, q, z⟩ := RdL.reads I hs ds vs its hr rv
    refine ⟨a :: as, Reads.list ho hc hd q, fun hm => ?_⟩
    rcases List.mem_cons.mp hm with e | hm
    · obtain ⟨ob, φ, e2⟩ := hs
      rw [e, hl] at e2
      cases e2
    · exact z hm
  | .dict kvs, _, _, ⟨a, ps, e, hS, hl, hr⟩, r => by
    subst e
    cases r
    obtain ⟨_, hne, vs, rk, o, es, ep, ho, ex, hd, _, hp, _⟩ := dk_of I.hok hl
    obtain ⟨as, bs, q1, q2, z⟩ := RdK.reads I hs kvs ps vs es.toList hr rk hp
    refine ⟨a :: as ++ bs, Reads.dict ho ex.1 hd q1 q2, fun hm => ?_⟩
    rcases List.mem_cons.mp hm with e | hm
    · rw [e] at hne
      simp at hne
    · exact z hm
theorem RdL.reads (I : Inv X pins σ H s) (hs : ∃ o φ, H sysModules = some (.frz o (.ext φ))) : ∀ (ds : List D) (vs : List V) (us : List Value), RdL X.K S H ds vs → Vals vs us → ∃ as, ReadsAll s.heap us ds as ∧ sysModules ∉ as
  | [], _, _, h, r => by
    rw [show _ = [] from h] at r
    cases r
    exact ⟨[], ReadsAll.nil, nofun⟩
  | d :: ds, _, _, ⟨v, rest, e, h1, h2⟩, r => by
    subst e
    cases r with
    | cons r1 r2 =>
      obtain ⟨as, q1, z1⟩ := Rdd.reads I hs d _ _ h1 r1
      obtain ⟨bs, q2, z2⟩ := RdL.reads I hs ds _ _ h2 r2
      exact ⟨as ++ bs, ReadsAll.cons q1 q2, fun hm => (List.mem_append.mp hm).elim z1 z2⟩
theorem RdK.reads (I : Inv X pins σ H s) (hs : ∃ o φ, H sysModules = some (.frz o (.ext φ))) : ∀ (kvs : List (D × D)) (ps : List (Key × V)) (vs : List (Key × Value)) (es : List DictEntry), RdK X.K S H kvs ps → KV ps vs → Pairs (mixKind X.prog X.w) es vs →
    ∃ as bs, ReadsAll s.heap (es.map (·.key)) (kvs.map (·.1)) as ∧ ReadsAll s.heap (es.map (·.val)) (kvs.map (·.2)) bs ∧ sysModules ∉ as ++ bs
  | [], _, _, _, h, r, p => by
    rw [show _ = [] from h] at r
    cases r
    cases p
    exact ⟨[], [], ReadsAll.nil, ReadsAll.nil, nofun⟩
  | (k, d) :: kvs, _, _, _, ⟨key, v, rest, e, ek, h1, h2⟩, r, p => by
    subst e
    cases r with
    | @cons _ q _ qs r1 r2 =>
      cases p with
      | cons p1 p2 p3 =>
        obtain ⟨as, bs, q1, q2, z⟩ := RdK.reads I hs kvs _ _ _ h2 r2 p3
        obtain ⟨e1, e2⟩ := r1
        rw [← e1] at p1
        obtain ⟨a1, t1, z1⟩ := reads_key (s := s) p1
        obtain ⟨b1, t2, z2⟩ := Rdd.reads I hs d _ _ h1 e2
        rw [← p2] at t2
        subst ek
        refine ⟨a1 ++ as, b1 ++ bs, ReadsAll.cons t1 q1, ReadsAll.cons t2 q2, fun hm => ?_⟩
        rcases List.mem_append.mp hm with hm | hm
        · exact (List.mem_append.mp hm).elim z1 fun y => z (List.mem_append_left _ y)
        · exact (List.mem_append.mp hm).elim z2 fun y => z (List.mem_append_right _ y)
end
end
/-- what repr asks -/
def Shw (d : D) : Prop := d.showable = true ∧ d.depth ≤ 60 ∧ d.shown.length ≤ sizeLine
def gRepr : D → (D → Prop) → Prop
  | .tuple ds, P => Shw (.tuple ds) ∧ P (.str (PyData.shown (.tuple ds)))
  | .list ds, P => Shw (.list ds) ∧ P (.str (PyData.shown (.list ds)))
  | _, _ => False
theorem mo_gRepr : Mo1 gRepr := fun x P P' k h => by cases x <;> first | exact h.elim | exact ⟨h.1, k _ h.2⟩
section
variable {X : Cx} {C : Ct} {e : Expr} {te : TED} {p pos : Pos}
def rRepr (K : PySem.W.Frag) : List V → Hp → VK → Prop := fun xs H Q => ∃ d a S, xs = [.ref a] ∧ Rdd K S H d (.ref a) ∧ Shw d ∧ (∃ o φ, H sysModules = some (.frz o (.ext φ))) ∧ Q (.str d.shown) H
theorem call_reprD (hg : NoGu X.A) (hu : X.A.units + 64 < cLine) : CallR X (.builtin "repr") (rRepr X.K) := by
  intro pins s σ H xs us Q I r h
  obtain ⟨d, a, S, rfl, rd, ⟨h1, h2, h3⟩, hs, q⟩ := h
  obtain ⟨u, rfl, r1⟩ := vals1 r
  obtain ⟨as, rr, z⟩ := Rdd.reads I hs d _ _ rd r1
  cases (show u = Value.ref a from r1)
  exact repr_of_reads' rr h1 (fun _ => z) hg (by omega) (fun _ _ e => e) (fun h' u tk hk => ⟨.str _, H, I.kept (t' := tk) hk, ⟨_, rfl⟩, q⟩) h3
theorem freeze_for {F : Addr → Prop} {O : Fps} {ρ : List Slot} {σ : L2.St} {H : Hp} {ds : List D} {v : V} (R : Rel X.K C F O ρ σ H) (rx : rO X.K F O H H (.list ds) v) : ∃ S, Rdd X.K S H (.list ds) v := by
  obtain ⟨a, vs, e, _, hl, r⟩ := rx
  exact ⟨fun b => F b ∨ b = a, a, vs, e, .inr rfl, hl, RdL.keep (fun b => Or.inl) (fun _ _ z => z) (fun _ _ _ z => z) _ _ r⟩
theorem pd_repr (hgu : NoGu X.A) (hu : X.A.units + 64 < cLine) (hg : Gl X "repr") (hm : X.mg "repr" = none) (he : PO X C e te) (hs : starEach [e] X.env = (false, eval e X.env) :: starEach [] X.env := by rfl) : PD X C (.Call (.Name "repr" p) [e] [] pos) (dUn gRepr te) :=
  pv_b1 (call_reprD hgu hu) (fun {F O ρ σ H x v Q} R rx h => by
    have hsys := R.dk
    obtain ⟨_, _, _, _, _, _, hsys⟩ := hsys
    cases x <;> first | exact h.elim | skip
    · obtain ⟨a, vs, rfl, _, _, _⟩ := id rx
      obtain ⟨S, rd⟩ := freeze_for R rx
      exact ⟨_, a, S, rfl, rd, h.1, hsys, h.2 _ _ _ (Stp.refl _ _ _) R rfl⟩
    · obtain ⟨a, vs, rfl, _, _⟩ := id rx
      exact ⟨_, a, F, rfl, rx, h.1, hsys, h.2 _ _ _ (Stp.refl _ _ _) R rfl⟩) mo_gRepr hg hm (by decide +kernel) he (hs := hs)
end
end DL

namespace DL
open PySem PySem.Spec PyProof.Rows L2

/-! ### dict displays with keys known -/
abbrev TKD := List Slot → (List (Key × D) → Prop) → Prop
def kdD (kds : List (Key × D)) : List (D × D) := kds.map fun p => (kD p.1, p.2)
def KdR (K : PySem.W.Frag) (F : Addr → Prop) (H : Hp) (kds : List (Key × D)) (kvs : List (Key × V)) : Prop := kvs.map (·.1) = kds.map (·.1) ∧ RdK K F H (kdD kds) kvs
def liftK (K : PySem.W.Frag) (C : Ct) (t : TKD) (σ : L2.St) (H : Hp) (Q : List (V × V) → Hp → Prop) : Prop := ∃ F O ρ, Rel K C F O ρ σ H ∧ t ρ fun kds => ∀ kvs H' F', Stp C.q F F' H H' → Rel K C F' O ρ σ H' → KdR K F' H' kds kvs → Q (kvs.map fun kv => (kV kv.1, kv.2)) H'
structure DK (X : Cx) (C : Ct) (pos : Pos) (keys : List (Option Expr)) (values : List Expr) (t : TKD) : Prop where
  mono : ∀ ρ (P P' : List (Key × D) → Prop), (∀ d, P d → P' d) → t ρ P → t ρ P'
  run : ∃ trs, PPs X pos keys values trs ∧ ∀ σ H Q, liftK X.K C t σ H Q → tPairs trs σ H Q
def kNil : TKD := fun _ P => P []
def kCons (k : Key) (te : TED) (t : TKD) : TKD := fun ρ P => te ρ fun d => t ρ fun r => P ((k, d) :: r)
theorem RdK.stpR {K : PySem.W.Frag} {C : Ct} {F F' : Addr → Prop} {O : Fps} {ρ : List Slot} {σ : L2.St} {H H' : Hp} (R : Rel K C F O ρ σ H) (s : Stp C.q F F' H H') {ds : List (D × D)} {vs : List (Key × V)} (h : RdK K F H ds vs) : RdK K F' H' ds vs :=
  RdK.keep (fun a => s.up a) (fun a vs => SqT.kpx R.dk s.kp) (fun a o ha e => s.kp.kp a o e (R.fz a ha).1 (R.fz a ha).2.1 fun ps z => (R.fz a ha).2.2.2 ps (by rw [e, z])) ds vs h
theorem RdK.len {K : PySem.W.Frag} {F : Addr → Prop} {H : Hp} : ∀ {ds : List (D × D)} {vs : List (Key × V)}, RdK K F H ds vs → vs.length = ds.length
  | [], _, h => by rw [show _ = [] from h]; rfl
  | (_, _) :: ds, _, ⟨key, v, r, e, _, _, h2⟩ => by rw [e, List.length_cons, List.length_cons, RdK.len (ds := ds) h2]
section
variable {X : Cx} {C : Ct} {e : Expr} {te : TED} {t : TKD} {pos p : Pos} {ks : List (Option Expr)} {es : List Expr} {j : Nat}
theorem dk_nil : DK X C pos [] [] kNil := ⟨fun _ _ _ k h => k _ h, [], pps_nil, fun σ H Q ⟨F, O, ρ, R, q⟩ => q [] H F (Stp.refl _ _ _) R ⟨rfl, rfl⟩⟩
theorem dk_cons {ke : Expr} (key : Key) (hk : PE X ke (tC (kV key))) (he : PD X C e te) (h : DK X C pos ks es t) : DK X C pos (some ke :: ks) (e :: es) (kCons key te t) := by
  obtain ⟨m, trs, hp, hi⟩ := h
  refine ⟨fun ρ P P' k => he.mono _ _ _ fun d => m _ _ _ fun r => k _, (tC (kV key), lift (rE X.K) X.K C te) :: trs, pps_cons hk he.run hp, fun σ H Q ⟨F, O, ρ, R, q⟩ => ?_⟩
  refine ⟨F, O, ρ, R, he.mono _ _ _ (fun d k v H1 F1 s1 R1 r1 => ?_) q⟩
  refine hi _ _ _ ⟨F1, O, ρ, R1, m _ _ _ (fun kds k2 kvs H2 F2 s2 R2 r2 => ?_) k⟩
  exact k2 ((key, v) :: kvs) H2 F2 (s1.trans s2) R2 ⟨by rw [List.map_cons, List.map_cons, r2.1], key, v, kvs, rfl, rfl, Rdd.stpR R1 s2 r1, r2.2⟩
theorem dk_i {i : Int} (he : PD X C e te) (h : DK X C pos ks es t) : DK X C pos (some (.Constant (.int i) j p) :: ks) (e :: es) (kCons (.inl i) te t) := dk_cons (.inl i) pe_int he h
theorem dk_s {x : Str} (he : PD X C e te) (h : DK X C pos ks es t) : DK X C pos (some (.Constant (.str x) j p) :: ks) (e :: es) (kCons (.inr x) te t) := dk_cons (.inr x) pe_str he h
def dDict (t : TKD) : TED := fun ρ P => t ρ fun kds => (kds.map (·.1)).Nodup ∧ kds.length ≤ 15 ∧ P (.dict (kdD kds))
theorem merge_id : ∀ (more kvs : List (Key × V)), (kvs.map (·.1) ++ more.map (·.1)).Nodup → mergeK kvs more = kvs ++ more := by
  intro more
  induction more with
  | nil => intro kvs _; rw [List.append_nil]; rfl
  | cons p r ih =>
    intro kvs h
    have hp : putK kvs p.1 p.2 = kvs ++ [p] := by
      unfold putK
      rw [if_neg]
      intro z
      obtain ⟨q, hq, e⟩ := List.any_eq_true.mp z
      have e : q.1 = p.1 := by simpa using e
      rw [List.map_cons] at h
      exact (List.nodup_append.mp h).2.2 q.1 (List.mem_map_of_mem hq) p.1 (List.mem_cons_self ..) e
    show mergeK (putK kvs p.1 p.2) r = _
    rw [hp, ih]
    · simp
    · rw [List.map_append, List.append_assoc]
      simpa using h
theorem pd_dict (h : DK X C pos ks es t) (hall : ks.all (·.isSome) = true := by rfl) (hl : ks.length = es.length := by rfl) (h0 : ks ≠ [] := by exact List.cons_ne_nil _ _) (h15 : ks.length ≤ 15 := by decide) : PD X C (.Dict ks es pos) (dDict t) := by
  obtain ⟨m, trs, hp, hi⟩ := h
  refine ⟨fun ρ P P' k => m _ _ _ fun kds h => ⟨h.1, h.2.1, k _ h.2.2⟩, pe_imp (pe_disp hp hall hl h0 h15) fun σ H Q ⟨F, O, ρ, R, q⟩ p hn => ?_⟩
  have R1 : Rel X.K C F O ρ σ (upd H p (.dK [])) := R.new hn
  obtain ⟨n1, n2, n3, n4, n5⟩ := R.np (Nn.of hn)
  refine hi _ _ _ ⟨F, O, ρ, R1, m _ _ _ (fun kds k kvs H2 F2 s2 R2 r2 => ?_) q⟩
  obtain ⟨k1, k2, k3⟩ := k
  have e2 : H2 p = some (.dK []) := s2.kp.kp p _ upd_same n1 n2 (fun ps z => nomatch z)
  have nf : ¬ F2 p := fun z => (s2.nw p z).elim n4 fun n => n.no (o := .dK []) upd_same (fun ps z => nomatch z)
  have hln : kvs.length ≤ 15 := by
    have := congrArg List.length r2.1
    rw [List.length_map, List.length_map] at this
    omega
  refine ⟨e2, kvs, rfl, hln, ?_⟩
  rw [merge_id kvs [] (by rw [List.map_nil, List.nil_append, r2.1]; exact k1), List.nil_append]
  have lo : Loose (.dK []) := .inr ⟨_, rfl⟩
  have R3 : Rel X.K C F2 O ρ σ (upd H2 p (.dK kvs)) := R2.wr e2 lo (.inr ⟨_, rfl⟩) nf n1 n2 n3 n5
  have R4 := R3.freeze n1 n2 n3 (by rw [upd_same]; simp) (by rw [upd_same]; intro ps z; cases z) n5
  have st : Stp C.q F F2 H H2 := (Stp.new hn).trans s2
  have st2 : Stp C.q F F2 H (upd H2 p (.dK kvs)) := ⟨⟨fun b o e h1 h2 h3 => (upd_ne fun (z : b = p) => by rw [z, hn] at e; cases e).trans (st.kp.kp b o e h1 h2 h3), fun b o e h => by
    by_cases z : b = p
    · rw [z, hn] at e; cases e
    · rw [upd_ne z]; exact st.kp.th b o e h⟩, st.up, st.nw⟩
  refine k3 (.ref p) _ _ (Stp.freeze (Nn.of hn) st2) R4 ⟨p, kvs, rfl, .inr rfl, upd_same, ?_⟩
  have lw : FSt F2 F2 H2 (upd H2 p (.dK kvs)) := FSt.wr e2 lo nf
  exact RdK.keep (fun b hb => .inl (lw.up b hb)) (fun _ _ => lw.seq) lw.fk _ _ r2.2
end
/-! ### enumerate of a tuple -/
abbrev enumO (e : Addr) : Obj := { cls := .type "enumerate", data := .fields #[.none, .bool false, .ref e, rawInt 0, .none, .none] }
theorem enumNew1 {v : Value} {o : Obj} {G : Heap → Prop} (B : Begins v o G) :
    Meets (Builtin.«enumerate.__new__» ⟨[.type "enumerate", v], []⟩) (fun _ R s => G s.heap ∧ R (.ok (.ret (.ref (s.heap.push o).objs.size))) { s with heap := (s.heap.push o).push (enumO s.heap.objs.size) }) :=
  .of_wp fun prog w A R s h => by
    obtain ⟨hp, g, d, tk, os⟩ := s
    obtain ⟨h1, h⟩ := h
    have hsub := sub_enumerate
    have it : ∀ {A' : Around} {E : Value → Shared → Prop} {Q : Value → Shared → Prop}, Q (.ref hp.objs.size) ⟨hp.push o, g, d, tk, os⟩ → wpAny (model prog w) A' (pyIter v) Q E ⟨hp, g, d, tk, os⟩ :=
      fun q => B.iter prog w _ _ ⟨hp, g, d, tk, os⟩ _ h1 q
    wp_walk using it
    refine wpAny_stack_any fun st => wpAny_pure ?_
    split
    · rename_i c _ _ _ _ _
      cases (c == Value.type "enumerate") <;> (wp_walk using it; exact ⟨_, rfl, h⟩)
    · wp_walk using it
      exact ⟨_, rfl, h⟩
theorem enumCall1 {prog : Program} {w : World} {A : Around} {E : Value → Shared → Prop} {s : Shared} {v : Value} {o : Obj} {G : Heap → Prop} {Q : Value → Shared → Prop} (B : Begins v o G) (h1 : G s.heap)
    (h : ∀ h', IsEnum h' (s.heap.objs.size + 1) s.heap.objs.size 0 .none → h'.get? s.heap.objs.size = some o → (∀ b o, s.heap.get? b = some o → h'.get? b = some o) → Q (.ref (s.heap.objs.size + 1)) { s with heap := h' }) :
    wpAny (model prog w) A (call (.type "enumerate") [v]) Q E s := by
  refine callType_new F.called_enumerate (by decide) (F.typeCall_enumerate_1 _) (F.newCall_enumerate_1 _) (fun obj => F.args_object_init_2 obj _) F.entry_enumerate_new (enumNew1 B) ⟨h1, ?_⟩
  have hz : (s.heap.push o).objs.size = s.heap.objs.size + 1 := Heap.size_push ..
  show _ ∧ _
  rw [hz]
  have he : IsEnum ((s.heap.push o).push (enumO s.heap.objs.size)) (s.heap.objs.size + 1) s.heap.objs.size 0 .none := by
    have q := Heap.get?_push_size (s.heap.push o) (o := enumO s.heap.objs.size) rfl
    rw [hz] at q
    exact q
  exact ⟨⟨_, he, rfl⟩, h _ he (Heap.get?_push_of_some _ (Heap.get?_push_size _ B.free)) fun b o x => Heap.get?_push_of_some _ (Heap.get?_push_of_some _ x)⟩
/-- the tuple at a, each item in a new pair -/
def IteT (K : PySem.W.Frag) (a : Addr) (n : Nat) : It :=
  ⟨fun i H => ∃ (xs : List V) (x : V), SqT K H a xs ∧ xs.length = n ∧ xs[i]? = some x, fun i H v H' => ∃ T x, v = .ref T ∧ H T = none ∧ H' = upd H T (.tup [.int (i : Nat), x]) ∧ ∀ xs, SqT K H a xs → xs[i]? = some x, fun i H => ∃ xs : List V, SqT K H a xs ∧ xs.length = n ∧ n ≤ i⟩
theorem turn_enumT {P : Program} {w : World} {K : PySem.W.Frag} {elts : List Expr} {kk : Nat} {tpos : Pos} (a e it : Addr) (n : Nat) :
    Turn P w K (.Tuple elts kk tpos) (IteT K a n) [e, it] e (fun i h => (∃ old, IsEnum h e it ((i : Nat) : Int) old) ∧ h.IsTupleIter it a i ∧ e ≠ it ∧ a ≠ it ∧ a ≠ e ∧ i ≤ n) where
  mem := by simp
  obj := fun i h st b hb => by
    obtain ⟨⟨old, he⟩, ⟨o, ho, hc, hd⟩, _⟩ := st
    have e' : b = e ∨ b = it := by simpa using hb
    rcases e' with z | z
    · rw [z]; exact ⟨_, he, fun v q => nomatch q⟩
    · rw [z]; exact ⟨o, ho, fun v q => by rw [hd] at q; cases q⟩
  keep := fun i h h' st k => let ⟨⟨old, he⟩, hi, hne⟩ := st; ⟨⟨old, k e (by simp) _ he⟩, hi.at fun o q => k it (by simp) o q, hne⟩
  item := by
    intro X hP hw hK hc i pins s σ H E I hf st hg
    subst hP hw hK
    obtain ⟨⟨old, he⟩, hit, hne, hai, hae, hin⟩ := st
    obtain ⟨xs, x, hq, hxl, hx⟩ := hg
    obtain ⟨its, rv, p, hz⟩ := I.tuple hq
    obtain ⟨u, hu, ru⟩ := rv.get hx
    have hel : e < s.heap.objs.size := Heap.lt_size he
    have hil : it < s.heap.objs.size := by obtain ⟨_, q, _⟩ := hit; exact Heap.lt_size q
    have hlt : i < its.toArray.size := by
      have := (List.getElem?_eq_some_iff.mp hu).1
      simpa using this
    refine wpAny_pyNext_enum_itemC (Draws.tuple (A := X.A.in1) (show X.A.in1.handled = none from I.ok.hd hc) it a hai its.toArray) he ⟨hit, show s.heap.IsTuple a its.toArray from p⟩ hlt hne (by simp; exact ⟨hne, Ne.symm hae⟩) fun y h' tk hy ho hst' hT hsz hk => ?_
    have hyu : y = u := by
      have : its.toArray[i]? = some u := by simpa using hu
      rw [this] at hy; exact (Option.some.inj hy).symm
    subst hyu
    refine ⟨_, rfl, wpAny_letOwnedTupleGo_enum (s := { s with heap := h', toks := tk + 1 }) ho fun h'' he' sb => ?_⟩
    have hT2 : h''.get? s.heap.objs.size = some { cls := .type "tuple", data := .seq #[.int i tk, y] } := (sb.2 _ (Nat.ne_of_gt hel)).trans hT
    have new : ObjOk X.prog X.w (upd H s.heap.objs.size (.tup [.int (i : Nat), x])) h'' s.heap.objs.size (.tup [.int (i : Nat), x]) :=
      ⟨by show 2 ≤ sizeLine; decide, [.int i tk, y], .cons ⟨_, rfl⟩ (.cons ru .nil), ⟨_, hT2, rfl, _, rfl⟩⟩
    have I1 : Inv X pins σ (upd H s.heap.objs.size (.tup [.int (i : Nat), x])) { s with heap := h'', toks := tk + 1 } :=
      I.turnedNew (ch := [e, it]) (fun b ob hb q => (sb.2 b (fun z => hb (by simp [z]))).trans (hk b ob (fun z => hb (by simp [z])) (fun z => hb (by simp [z])) q)) hf (Nat.le_refl _) new
    refine ⟨.ref s.heap.objs.size, _, I1, rfl, ⟨_, x, rfl, I.hok.fresh (Nat.le_refl _), rfl, fun ys hy => by rw [I.tuple_inj hy hq]; exact hx⟩, ⟨⟨y, ?_⟩, hst'.1.at fun o q => (sb.2 it (Ne.symm hne)).trans q, hne, hai, hae, by rw [← hxl, rv.length]; exact Nat.succ_le_of_lt (by simpa using hlt)⟩, fun b hb => ?_⟩
    · have e1 : ((i + 1 : Nat) : Int) = (i : Int) + 1 := by omega
      rw [e1]; exact he'
    · have hb' : b < s.heap.objs.size := by
        have e' : b = e ∨ b = it := by simpa using hb
        rcases e' with z | z
        · rw [z]; exact hel
        · rw [z]; exact hil
      rw [upd_ne (Nat.ne_of_lt hb')]
      exact (hf b hb).1
  done := by
    intro X hP hw hK hc i pins s σ H E I hf st hg
    subst hP hw hK
    obtain ⟨⟨old, he⟩, hit, hne, hai, hae, hin⟩ := st
    obtain ⟨xs, hq, hxl, hx⟩ := hg
    obtain ⟨its, rv, p, hz⟩ := I.tuple hq
    obtain ⟨f0, f1, f2, f3, f4, f5⟩ := hf it (by simp)
    have hl := rv.length
    have hin2 : i = its.toArray.size := by rw [List.size_toArray]; omega
    have st2 : s.heap.IsTupleIter it a its.toArray.size ∧ s.heap.IsTuple a its.toArray := ⟨hin2 ▸ hit, p⟩
    exact wpAny_pyNext_enum_endD (Draws.tuple (A := X.A.in1) (show X.A.in1.handled = none from I.ok.hd hc) it a hai its.toArray) he st2 fun h' eb => ⟨rfl, I.turned (t' := s.toks) (fun b o hb q => eb b o hb q) f0 f1 f3 f4 f5⟩
  self := fun A i s Q E st h => let ⟨⟨_, he⟩, _⟩ := st; wpAny_pyIter_enum he h
def iEnumTu (K : PySem.W.Frag) (ta : TA) : TI := fun σ H R => ta σ H fun vs H1 => ∃ a xs, vs = [.ref a] ∧ SqT K H1 a xs ∧ R (IteT K a xs.length) H1
theorem pi_enumT {X : Cx} {e : Expr} {ta : TA} {p pos tpos : Pos} {elts : List Expr} {kk : Nat} (hg : Gl X "enumerate") (hm : X.mg "enumerate" = none) (ha : PA X [e] ta) (hs : starEach [e] X.env = [(false, eval e X.env)] := by rfl) :
    PI X (.Tuple elts kk tpos) (.Call (.Name "enumerate" p) [e] [] pos) (iEnumTu X.K ta) := by
  refine ⟨fun pins s σ H R I h => ?_⟩
  refine Call_ (ld_blt I hg hm boot_enumerate (PyProof.Rows.callWith_type1 (thn (ha.run pos pins s σ H _ I h) fun us s1 ⟨vs, H1, I1, r1, q1⟩ => ?_) hs rfl))
  obtain ⟨a, xs, rfl, hq, q⟩ := q1
  obtain ⟨u, rfl, r⟩ := vals1 r1
  cases (show u = Value.ref a from r)
  obtain ⟨its, rv, p', hz⟩ := I1.tuple hq
  refine enumCall1 (begins_tuple a its.toArray) (show s1.heap.IsTuple a its.toArray from p') fun h' he hit hk => wpAny_pyIter_enum he ?_
  have I2 : Inv X pins σ H1 { s1 with heap := h' } := I1.kept (t' := s1.toks) hk
  have la : a < s1.heap.objs.size := p'.lt
  refine ⟨s1.heap.objs.size + 1, [s1.heap.objs.size + 1, s1.heap.objs.size], _, _, H1, rfl, I2, turn_enumT a (s1.heap.objs.size + 1) s1.heap.objs.size xs.length, ⟨⟨.none, he⟩, ⟨_, hit, rfl, rfl⟩, Nat.succ_ne_self _, Nat.ne_of_lt la, Nat.ne_of_lt (Nat.lt_succ_of_lt la), Nat.zero_le _⟩, fun b hb => ?_, q⟩
  have hle : s1.heap.objs.size ≤ b := by
    have e' : b = s1.heap.objs.size + 1 ∨ b = s1.heap.objs.size := by simpa using hb
    rcases e' with z | z
    · rw [z]; exact Nat.le_succ _
    · rw [z]; exact Nat.le_refl _
  exact I1.fpOk hle (I1.hok.fresh hle)
section
variable {X : Cx} {C : Ct} {e : Expr} {te : TED} {p pos tpos : Pos} {elts : List Expr} {kk : Nat}
theorem feed_enumT {K : PySem.W.Frag} {F : Addr → Prop} {H : Hp} {ds : List D} {vs : List V} {a : Addr} (hl : SqT K H a vs) (r : RdL K F H ds vs) : Feed K C (IteT K a vs.length) (enumD ds) F H := by
  refine ⟨fun i hi F' O ρ σ H' s R => ?_, fun i hi F' O ρ σ H' s R => ?_, fun i d e F' O ρ σ H' s R x H'' y => ?_⟩
  · rw [enumD_len] at hi
    have : i < vs.length := by rw [r.len]; exact hi
    exact ⟨vs, vs[i], s.seq hl, rfl, List.getElem?_eq_getElem this⟩
  · rw [enumD_len] at hi
    exact ⟨vs, s.seq hl, rfl, by rw [r.len]; exact hi⟩
  · obtain ⟨T, x', rfl, n, rfl, y⟩ := y
    obtain ⟨x, ex, rfl⟩ := enumD_get e
    have z := y vs (s.seq hl)
    obtain ⟨u, hu, hr⟩ := r.get ex
    rw [hu] at z; cases z
    exact new_tup (ds := [.int (i : Nat), x]) (vs := [.int (i : Nat), x']) R ⟨_, _, rfl, rfl, _, _, rfl, hr.fst s, rfl⟩ n
def iEnumT (te : TED) : TID := fun ρ P => te ρ fun d => match d with
  | .tuple ds => P (enumD ds)
  | _ => False
theorem di_enumT (hg : Gl X "enumerate") (hm : X.mg "enumerate" = none) (h : PD X C e te) (hs : starEach [e] X.env = [(false, eval e X.env)] := by rfl) : DI X C (.Tuple elts kk tpos) (.Call (.Name "enumerate" p) [e] [] pos) (iEnumT te) :=
  ⟨fun ρ P P' k => h.mono _ _ _ fun d h => by cases d <;> first | exact h.elim | exact k _ h, pi_imp (pi_enumT hg hm (pa_cons h.run pa_nil (by exact hs)) hs) fun σ H Q ⟨F, O, ρ, R, q⟩ => ⟨F, O, ρ, R, h.mono _ _ _ (fun d k v H' F' s R' r => by
    cases d <;> first | exact k.elim | skip
    obtain ⟨a, vs, e, hl, r⟩ := r
    exact ⟨a, vs, by rw [e], hl, k _ H' F' s R' (feed_enumT hl r)⟩) q⟩⟩
end
end DL

namespace DL
open PySem PySem.Spec PyProof.Rows L2

/-! ### defs that keep their promise, called by name -/
structure Cal (G : Around → Prop) (P : Program) (w : World) (K : PySem.W.Frag) (mg : Str → Option Value) (base : Heap) (k : Nat) (x : Str) (ps : List Str) (wd : Wd) (Fd : FD) : Prop where
  ex : ∃ f fd, FnR G P w K mg base (L2.CX P w) k f fd ps (spD K wd Fd) ∧ mg x = some (.ref f) ∧ PySem.W.keepIn K (.ref f) = true ∧ Binds K fd ps []
theorem Cal.mono {G G' : Around → Prop} {P : Program} {w : World} {K : PySem.W.Frag} {mg : Str → Option Value} {base : Heap} {k j : Nat} {x : Str} {ps : List Str} {wd : Wd} {Fd : FD} (c : Cal G P w K mg base j x ps wd Fd) (h : j ≤ k) (g : ∀ A, G' A → G A) : Cal G' P w K mg base k x ps wd Fd := by
  obtain ⟨f, fd, F, h1, h2, h3⟩ := c.ex
  exact ⟨f, fd, F.mono h g, h1, h2, h3⟩
def pick {α : Type} (is : List Nat) (l : List α) : List α := is.filterMap (l[·]?)
theorem pick_vals {zs : List V} {ws : List Value} (r : Vals zs ws) : ∀ is : List Nat, Vals (pick is zs) (pick is ws)
  | [] => .nil
  | i :: is => by
    have ih := pick_vals r is
    unfold pick at ih ⊢
    rw [List.filterMap_cons, List.filterMap_cons]
    cases e : zs[i]? with
    | none =>
      have hl := r.length
      have : ws[i]? = none := by
        rw [List.getElem?_eq_none_iff] at e ⊢
        omega
      rw [this]
      exact ih
    | some v =>
      obtain ⟨u, hu, ru⟩ := r.get e
      rw [hu]
      exact .cons ru ih
theorem pick_rd {K : PySem.W.Frag} {q : Dq} {F : Addr → Prop} {H : Hp} {ds : List D} {vs : List V} (r : RdL K F H ds vs) : ∀ is : List Nat, ArgsR K q F H ((pick is ds).map .dat) (pick is vs)
  | [] => rfl
  | i :: is => by
    have ih := pick_rd (q := q) r is
    unfold pick at ih ⊢
    rw [List.filterMap_cons, List.filterMap_cons]
    cases e : ds[i]? with
    | none =>
      have hl := r.len
      have : vs[i]? = none := by
        rw [List.getElem?_eq_none_iff] at e ⊢
        omega
      rw [this]
      exact ih
    | some d =>
      obtain ⟨u, hu, ru⟩ := r.get e
      rw [hu]
      exact ⟨u, _, rfl, ru, ih⟩
structure CalK (G : Around → Prop) (P : Program) (w : World) (K : PySem.W.Frag) (mg : Str → Option Value) (base : Heap) (k : Nat) (x : Str) (ps ks : List Str) (is : List Nat) (wd : Wd) (Fd : FD) : Prop where
  ex : ∃ f fd, FnR G P w K mg base (L2.CX P w) k f fd ps (spD K wd Fd) ∧ mg x = some (.ref f) ∧ PySem.W.keepIn K (.ref f) = true ∧ ∀ (s : Shared) (ws : List Value), ws.length = ks.length → BindsTo s fd ⟨[], ks.zip ws⟩ (ps.zip (pick is ws))
abbrev DKW := DS
structure DQ (X : Cx) (C : Ct) (kws : List Keyword) (t : TLD) : Prop where
  mono : ∀ ρ (P P' : List D → Prop), (∀ d, P d → P' d) → t ρ P → t ρ P'
  run : PK X kws (liftL X.K C t)
  len : ∀ ρ P, t ρ P → t ρ fun ds => ds.length = kws.length ∧ P ds
theorem pk_imp {X : Cx} {es : List Keyword} {t t' : TA} (h : PK X es t) (i : ∀ σ H Q, t' σ H Q → t σ H Q) : PK X es t' := ⟨fun pos pins s σ H Q I q => h.run pos pins s σ H Q I (i σ H Q q)⟩
def tCallK (Fd : FD) (px : XP) (is : List Nat) (t : TLD) : TED := fun ρ P => t ρ fun ds => Fd.run ((pick is ds).map .dat) P px
section
variable {G : Around → Prop} {X : Cx} {C : Ct} {k : Nat} {ps ks : List Str} {is : List Nat} {Fd : FD} {E : XK} {x nm : Str} {p pos kpos : Pos} {e : Expr} {es : List Expr} {t : TAD} {tl : TLD} {te : TED} {px : XP} {kws : List Keyword} {on : Option Str}
theorem pd_call (c : Cal G X.prog X.w X.K X.mg X.base k x ps C.q.w Fd) (hr : Room k X.A) (hG : G X.A) (hx : XO X C px (L2.CX X.prog X.w) E) (hg : Gl X x) (ha : DA X C (e :: es) t)
    (hdb : (x == ("__debug__" : Str)) = false := by decide) (he : starEach (e :: es) X.env = (false, eval e X.env) :: starEach es X.env := by rfl) (hpl : (backTo pos (starEach es X.env)).any (·.1) = false := by rfl) : PD X C (.Call (.Name x p) (e :: es) [] pos) (tCallD Fd px t) := by
  obtain ⟨f, fd, F, hm, hk, hb⟩ := c.ex
  exact pv_call F hr hG hg hm hk hb hx ha hdb he hpl
theorem dq_nil : DQ X C [] lNil := ⟨fun _ _ _ k h => k _ h, pk_imp pk_nil fun σ H Q ⟨F, O, ρ, R, q⟩ => q [] H F (Stp.refl _ _ _) R rfl, fun ρ P h => ⟨rfl, h⟩⟩
theorem dq_cons (h : PD X C e te) (ha : DQ X C kws tl) : DQ X C (⟨on, e, kpos⟩ :: kws) (lCons te tl) :=
  ⟨fun ρ P P' k => h.mono _ _ _ fun d => ha.mono _ _ _ fun as => k _, pk_imp (pk_cons h.run ha.run) fun σ H Q ⟨F, O, ρ, R, q⟩ =>
    ⟨F, O, ρ, R, h.mono _ _ _ (fun d k v H1 F1 s1 R1 r1 => ⟨F1, O, ρ, R1, ha.mono _ _ _ (fun as k2 vs H2 F2 s2 R2 r2 => k2 _ H2 F2 (s1.trans s2) R2 ⟨v, vs, rfl, Rdd.stpR R1 s2 r1, r2⟩) k⟩) q⟩, fun ρ P => h.mono _ _ _ fun d h2 => ha.mono _ _ _ (fun ds ⟨l, z⟩ => ⟨by rw [List.length_cons, List.length_cons, l], z⟩) (ha.len _ _ h2)⟩
theorem pd_callK (c : CalK G X.prog X.w X.K X.mg X.base k x ps ks is C.q.w Fd) (hr : Room k X.A) (hG : G X.A) (hx : XO X C px (L2.CX X.prog X.w) E) (hg : Gl X x) (ha : DQ X C kws tl) (hlen : kws.length = ks.length := by rfl)
    (hall : (backToKw pos (keywordEach kws X.env)).all (·.1.isSome) = true := by rfl) (hks : (backToKw pos (keywordEach kws X.env)).filterMap (·.1) = ks := by rfl) (hdb : (x == ("__debug__" : Str)) = false := by decide)
    (hpl : ((backTo pos (starEach [] X.env)).any (·.1) || (backToKw pos (keywordEach kws X.env)).any (·.1.isNone)) = false := by rfl) : PD X C (.Call (.Name x p) [] kws pos) (tCallK Fd px is tl) := by
  obtain ⟨f, fd, F, hm, hk, hb⟩ := c.ex
  refine ⟨fun ρ P P' k => ha.mono _ _ _ fun ds => Fd.mono _ _ _ _ _ k fun _ _ _ z => z, ⟨fun pins s σ H Q I h => ?_⟩⟩
  obtain ⟨F0, O, ρ, R, q⟩ := h
  refine wpAny_Call_Name_kw (ld_glob I hg hm ?_ hdb)
  refine PySem.W.callWith_KW0 (h₀ := X.base) I.ok.mod.kin hk hall ?_ hpl
  have q2 := ha.len _ _ q
  refine thn (ha.run.run pos pins s σ H (fun zs H1 => zs.length = ks.length ∧ spD X.K C.q.w Fd (pick is zs) H1 Q E) I ⟨F0, O, ρ, R, ha.mono _ _ _ (fun ds ⟨kl, k2⟩ vs H1 F1 s1 R1 r1 => ⟨by rw [r1.len, kl, hlen], spD_of hx R1 (pick_rd r1 is) k2 fun d kd v H2 F2 s2 R2 r2 => kd v H2 F2 (s1.trans s2) R2 r2⟩) q2⟩) fun ws s2 ⟨zs, H2, I2, rz, l2, q3⟩ => ⟨I2.kIn, ?_⟩
  · rw [hks]
    refine wpAny_call (codeAny_mono (F.run X.A X.stack s2 H2 ⟨[], ks.zip ws⟩ (pick is ws) (pick is zs) Q E hr hG I2.env0 (hb s2 ws (rz.length.symm.trans l2)) (pick_vals rz is) q3) fun r s' hq => ?_)
    cases r with
    | error e => exact hx.pass pins σ H2 s2 e s' I2 hq
    | ok fl =>
      cases fl with
      | ret u => exact I2.after hq
      | next => exact False.elim hq
      | brk => exact False.elim hq
      | cont => exact False.elim hq
end
end DL

namespace DL
open PySem PySem.Spec PyProof.Rows L2
open Builtin Builtin.ObjectAttr

/-! ### an own exception class over Exception: __init__(self, p): self.f = p -/
abbrev exTail : List Value := [.type "Exception", .type "BaseException", .type "object"]
theorem tail_pass (self : Value) : ∀ rs : List Addr, refuseLoop self "__setattr__" (rs.map Value.ref ++ exTail) = pure ()
  | [] => F.store_Exception.passes self
  | C :: rs => by
    rw [List.map_cons, List.cons_append, refuseLoop_ref]
    exact tail_pass self rs
theorem tail_has (T : String) : ∀ rs : List Addr, (rs.map Value.ref ++ exTail).contains (.type T) = exTail.contains (.type T)
  | [] => rfl
  | C :: rs => by
    rw [List.map_cons, List.cons_append, List.contains_cons, tail_has T rs]
    rfl
theorem tail_ne (rs : List Addr) : (rs.map Value.ref ++ exTail).isEmpty = false := by cases rs <;> rfl
/-- what the written part says of the class at C -/
structure XcC (K : PySem.W.Frag) (C : Addr) : Prop where
  cls : ∃ nm q N bs, ∃ rs : List Addr, ∃ sn sub ab col dd k0 k1 k2 k3 k5, K.lookup C = some (excClassObj nm q C N bs (rs.map Value.ref ++ exTail) true sn sub ab col dd k0 k1 k2 k3 k5 "Exception.__new__")
  sa : PySem.W.findIn K (.ref C) "__setattr__" = some (some (.builtin "object.__setattr__"))
  exC : PySem.W.subIn K (.ref C) (.type "BaseException") = some true
  tyC : PySem.W.typeIn K (.ref C) = some (.type "type")
  kC : PySem.W.keepIn K (.ref C) = true
section
variable {prog : Program} {w : World} {A : Around} {R : Result → Shared → Prop} {hp : Heap} {g : Array GenState} {d : Drawn} {t : Nat} {os : OsState} {K : PySem.W.Frag}
theorem xc_store {name : Str} {tk : Tok} {v : Value} {x C : Addr} {fv : Array Value} {cd : ClassData} {rs : List Addr} (X : K.In hp) (hx : hp.get? x = some { cls := .ref C, data := .fields fv }) (hcd : PySem.W.clsIn K C = some cd) (hm : cd.mro = rs.map Value.ref ++ exTail) (hh : cd.hasDict = true)
    (ha : PySem.W.findIn K (.ref C) name = some none)
    (hq : ∀ h' tk' dx, (∀ b o, b ≠ x → hp.get? b = some o → h'.get? b = some o) → hp.objs.size ≤ dx → dx ≠ x → h'.get? x = some { cls := .ref C, dict := some dx, data := .fields fv } →
      h'.Ns1 dx (fun y => if y = name then some v else none) → R (.ok (.ret .none)) ⟨h', g, d, tk', os⟩) :
    codeAny (model prog w) A (.call (.builtin "object.__setattr__") ⟨[.ref x, .str name tk, v], []⟩) R ⟨hp, g, d, t, os⟩ := by
  have I : PySem.W.InstAt hp x { cls := .ref C, data := .fields fv } C none := ⟨hx, rfl, rfl, trivial⟩
  have SF := F.store_object
  have ne : cd.mro.isEmpty = false := by rw [hm]; exact tail_ne rs
  have hob : cd.mro.contains (.type "object") = true := by rw [hm, tail_has]; decide +kernel
  have hxs : x ≠ hp.objs.size := Nat.ne_of_lt (Heap.lt_size hx)
  have sub : PySem.W.Looks (model prog w) hp (isInstance (.ref x) (.type "object")) true := I.type.andThen (PySem.W.looks_mroIn X (by unfold PySem.W.mroIn; rw [hcd, Option.bind_some, if_neg (by rw [ne]; decide), hob]))
  refine codeAny_call_builtin SF.slot.plain SF.entry (@PySem.W.check_slot (model prog w) _ _ ⟨hp, g, d, t, os⟩ "object.__setattr__" "object" "__setattr__" (.ref x) [.str name tk, v] [] _ SF.kind SF.split sub (SF.args (.ref x) (.str name tk) v) ?_)
  have hmr : PySem.W.Looks (model prog w) hp (mroOf (.ref C)) cd.mro := (PySem.W.looks_clsIn X hcd).andThen .now
  have L3 : PySem.W.Looks (model prog w) hp (storeTaker? none) none := .now
  have hcls : PySem.W.Looks (model prog w) hp (classData C) cd := PySem.W.looks_clsIn X hcd
  rw [PySem.W.osa_eq, refuse_eq]
  refine wpAny_bind (wpAny_bind (I.type.at (wpAny_bind (hmr.at ?_))))
  rw [hm, tail_pass]
  refine wpAny_pure (wpAny_bind (I.type.at (wpAny_bind ((PySem.W.looks_findIn X ha).at (wpAny_bind (L3.at ?_))))))
  show wpAny _ _ (storeInOwnDict (.ref x) (.ref C) (.str name tk) name v false) _ _ _
  obtain ⟨nm, bs, mro, ns, qn, hd, sn, sb, ab, col, del⟩ := cd
  dsimp only at hh
  subst hh
  unfold storeInOwnDict ownDictForStores
  repeat (first | with_reducible refine PySem.HandSPX.store_in_new ?_ ?_ | with_reducible refine wpAny_loadPart_at hx ?_ | with_reducible refine hcls.at ?_ | wp_step)
  · exact ⟨_, #[], _, (Heap.get?_update_ne _ _ _ _ hxs.symm).trans (Heap.get?_push_at rfl rfl), rfl, fun e he => absurd he (by simp), fun _ => rfl⟩
  · intro h' tk' hn' hs
    have hx₁ : (hp.push { cls := .type "dict", data := .dict #[] }).get? x = some { cls := .ref C, data := .fields fv } := Heap.get?_push_of_some _ hx
    refine hq h' tk' hp.objs.size (fun b o hb ho => ?_) (Nat.le_refl _) hxs.symm ?_ hn'
    · exact (hs.2 b (Nat.ne_of_lt (Heap.lt_size ho))).trans ((Heap.get?_update_ne _ _ _ _ hb).trans (Heap.get?_push_of_some _ ho))
    · exact (hs.2 x hxs).trans (Heap.get?_update_self _ hx₁ rfl)
end
section
variable {X : Cx} {pins : List (Addr × Obj)} {σ : L2.St} {H : Hp} {s : Shared} {a C dx : Addr} {f : Str} {y : V} {u : Value} {Q : Unit → Shared → Prop} {E : Value → Shared → Prop} {A : Around}
theorem xc_set (T : XcC X.K C) (I : Inv X pins σ H s) (e : H a = some (exo a C none)) (hno : PySem.W.findIn X.K (.ref C) f = some none) (ry : RelV y u)
    (h : ∀ dx s', H dx = none → dx ≠ a → Inv X pins σ (upd (upd H dx (exd dx [(f, y)])) a (exo a C (some dx))) s' → Q () s') : wpAny (model X.prog X.w) A (setAttr (.ref a) f u) Q E s := by
  obtain ⟨nm, q, N, bs, rs, sn, sub, ab, col, dd, k0, k1, k2, k3, k5, hC⟩ := T.cls
  have hcl : PySem.W.clsIn X.K C = some { name := nm, bases := bs, mro := .ref C :: (rs.map Value.ref ++ exTail), ns := N, qualname := q, hasDict := true, slotNames := sn, subclasses := sub, abstract := ab, collection := col, hasDel := false } := by unfold PySem.W.clsIn; rw [hC] <;> rfl
  obtain ⟨t1, ho⟩ := exo_at I.hok e
  obtain ⟨hp, g, d, t, os⟩ := s
  refine PySem.W.set_plain I.kIn (ox := { cls := .ref C, dict := none, data := .fields #[.ref t1, .none, .none, .none, .bool false, .none] }) (od := none) ⟨ho, rfl, rfl, trivial⟩ T.sa ?_
  refine xc_store I.kIn ho hcl (rs := C :: rs) rfl rfl hno fun h' tk' dx k dn dne hx hn => ?_
  have hnd : H dx = none := I.hok.fresh dn
  have nd : ∀ {b : Addr} {o : Obj}, hp.get? b = some o → b ≠ dx := fun {b o} q => Nat.ne_of_lt (Nat.lt_of_lt_of_le (Heap.lt_size q) dn)
  have na : ∀ {b : Addr}, H b = none → b ≠ a := fun {b} n z => by
    rw [z, e] at n
    cases n
  have Un1 : Un X.fs [] H (upd (upd H dx (exd dx [(f, y)])) a (exo a C (some dx))) hp h' := {
    keep := fun b o q n _ _ => k b o (na n) q
    slot := fun b o q n _ _ => ⟨o.slots, k b o (na n) q⟩
    free := fun b o q n _ => by rw [upd_ne (na n), upd_ne (nd q)]; exact n
    there := fun b o q _ => by
      by_cases hb : b = a
      · exact ⟨_, by rw [hb]; exact hx⟩
      · exact ⟨o, k b o hb q⟩
    tups := fun b xs q => by rw [upd_ne (at_ne e q exo_tup), upd_ne (ne_of_none q hnd)]; exact q
    frzs := fun b o v q => by rw [upd_ne (at_ne e q exo_frz), upd_ne (ne_of_none q hnd)]; exact q
    tbls := fun b ps q => ⟨#[], by rw [upd_ne (at_ne e q exo_tbl), upd_ne (ne_of_none q hnd), q]; simp⟩ }
  refine h dx _ hnd dne (I.un (t' := tk') Un1 fun b o q => ?_)
  by_cases hb : b = a
  · subst hb
    rw [upd_same] at q
    cases q
    exact exo_ok hx
  · rw [upd_ne hb] at q
    by_cases hd : b = dx
    · subst hd
      rw [upd_same] at q
      cases q
      exact exd_ok hn (relO_put (fs := []) ry fun g => True.intro)
    · rw [upd_ne hd] at q
      exact (I.hok b o q).stay (fun c v hc z => k c v (by
          rcases hc with hc | hc
          · rw [hc]
            exact hb
          · exact at_ne e hc exo_own) z)
        (fun c hc => by rw [upd_ne (at_ne e hc exo_own), upd_ne (ne_of_none hc hnd)]; exact hc) (fun c xs hc => by rw [upd_ne (at_ne e hc exo_tup), upd_ne (ne_of_none hc hnd)]; exact hc)
end
/-- self.f = e in the __init__ of such a class -/
def tXst (K : PySem.W.Frag) (f : Str) (to te : TE) : TS := fun D σ H => te σ H fun y H1 => to σ H1 fun x H2 => ∃ a C : Addr, x = .ref a ∧ XcC K C ∧ PySem.W.findIn K (.ref C) f = some none ∧
  H2 a = some (exo a C none) ∧ ∀ dx, H2 dx = none → dx ≠ a → D.nx σ (upd (upd H2 dx (exd dx [(f, y)])) a (exo a C (some dx)))
section
variable {X : Cx} {o e : Expr} {to te : TE} {f : Str} {p p' pos : Pos}
theorem ps_xst (ho : PE X o to) (he : PE X e te) (hs : swapsWith e (some (.Attribute o f p')) pos.line X.env = pure false := by rfl) : PS X (.Assign [.Attribute o f p'] e pos) (tXst X.K f to te) := by
  refine ⟨fun pins s σ H D I h => ?_⟩
  refine plainObj_wpAny_Assign_Attribute (thn (he.run pins s σ H _ I h) fun v s1 ⟨y, H1, I1, r1, q1⟩ => thn (ho.run pins s1 σ H1 _ I1 q1) fun u s2 ⟨x, H2, I2, r2, a, C, ex, T, hno, ea, q⟩ => ?_) hs
  subst ex
  cases (show u = Value.ref a from r2)
  exact xc_set T I2 ea hno r1 fun dx s' n ne J => ⟨σ, _, J, q dx n ne⟩
end
def spXc (K : PySem.W.Frag) (f : Str) : Sp := fun vs H Q _ => ∃ (a C : Addr) (y : V), vs = [.ref a, y] ∧ XcC K C ∧ PySem.W.findIn K (.ref C) f = some none ∧ H a = some (exo a C none) ∧
  ∀ dx, H dx = none → dx ≠ a → Q .non (upd (upd H dx (exd dx [(f, y)])) a (exo a C (some dx)))
theorem xc_init {P : Program} {w : World} {K : PySem.W.Frag} {mg : Str → Option Value} {base : Heap} {qual self q f : Str} {st : Stmt} {fI : Addr} {fd : FuncData} {p1 p2 p3 p4 : Pos} (F : L2.Fun K "__init__" qual st fI fd) (S : FnScope [self, q] [self, q] (defScope st))
    (hb : defBody st = [.Assign [.Attribute (.Name self p1) f p2] (.Name q p3) p4]) (v0 : Vis (defScope st) self) (v1 : Vis (defScope st) q) (d0 : (self == ("__debug__" : Str)) = false) (d1 : (self == ("__classdict__" : Str)) = false) (d2 : (q == ("__debug__" : Str)) = false) (d3 : (q == ("__classdict__" : Str)) = false)
    (hs : ∀ env : Env, swapsWith (.Name q p3) (some (.Attribute (.Name self p1) f p2)) p4.line env = pure false) :
    FnOk P w K mg base (L2.CX P w) 1 fI fd [self, q] (spXc K f) := by
  refine F.okX S (fun vs H Q E ⟨a, C, y, e, _⟩ => by rw [e]; rfl) fun cdv A outer s H vs Q E hr ⟨a, C, y, e, T, hno, ea, k⟩ => ?_
  subst e
  rw [hb]
  refine ⟨_, pss_one (ps_xst (pe_var (i := 0) rfl v0 d0 d1) (pe_var (i := 1) rfl v1 d2 d3) (hs _)), ?_⟩
  exact ⟨y, rfl, .ref a, rfl, a, C, rfl, T, hno, ea, fun dx n ne => k dx n ne⟩
/-- C(e) -/
def tMkX (C : Addr) (f : Str) (te : TE) : L2.St → Hp → XK → Prop := fun σ H Q => te σ H fun y H1 => ∀ d, H1 d = none → Q (.ref C) (some d) (upd H1 d (.xd [(f, y)]))
theorem pmk_xc {X : Cx} {x f : Str} {C fI : Addr} {k : Nat} {fd : FuncData} {ps : List Str} {e : Expr} {te : TE} {p pos : Pos} (T : XcC X.K C) (hno : PySem.W.findIn X.K (.ref C) f = some none) (iC : PySem.W.findIn X.K (.ref C) "__init__" = some (some (.ref fI))) (tI : PySem.W.typeIn X.K (.ref fI) = some (.type "function"))
    (F1 : FnOk X.prog X.w X.K X.mg X.base (L2.CX X.prog X.w) k fI fd ps (spXc X.K f)) (hr : Room (k + 1) X.A) (hb : Binds X.K fd ps []) (hg : Gl X x) (hm : X.mg x = some (.ref C)) (ha : PE X e te)
    (hdb : (x == ("__debug__" : Str)) = false := by decide) (he : starEach [e] X.env = (false, eval e X.env) :: starEach [] X.env := by rfl) :
    PMk X (.Call (.Name x p) [e] [] pos) (tMkX C f te) := by
  intro pins s σ H Q I h
  obtain ⟨nm, q, N, bs, rs, sn, sub, ab, col, dd, k0, k1, k2, k3, k5, hC⟩ := T.cls
  refine wpAny_Call_Name_kw (ld_glob I hg hm ?_ hdb)
  refine PySem.W.callWith_K (h₀ := X.base) I.ok.mod.kin T.kC (thn ((pa_cons ha pa_nil he).run pos pins s σ H (fun vs H1 => match vs with | [y] => ∀ d, H1 d = none → Q (.ref C) (some d) (upd H1 d (.xd [(f, y)])) | _ => False) I h) fun us s1 ⟨vs, H1, I1, r1, q1⟩ => ⟨I1.kIn, ?_⟩) he (by rfl)
  obtain ⟨y, rfl⟩ : ∃ y, vs = [y] := by
    match vs, q1 with
    | [y], _ => exact ⟨y, rfl⟩
  have q1 : ∀ d, H1 d = none → Q (.ref C) (some d) (upd H1 d (.xd [(f, y)])) := q1
  show wpAny _ _ (call (.ref C) us) _ _ _
  obtain ⟨hp, g, dr, tk, os⟩ := s1
  have hsz : hp.objs.size ≤ hp.objs.size + 1 := Nat.le_succ _
  have hn : H1 (hp.objs.size + 1) = none := I1.hok.fresh hsz
  have kk : ∀ b o, hp.get? b = some o → ((hp.push (PySem.W.kdv_tup us)).push (PySem.HandSPX.excO C hp.objs.size)).get? b = some o := fun b o e => Heap.get?_push_of_some _ (Heap.get?_push_of_some _ e)
  have hget : ((hp.push (PySem.W.kdv_tup us)).push (PySem.HandSPX.excO C hp.objs.size)).get? (hp.objs.size + 1) = some (PySem.HandSPX.excO C hp.objs.size) := by heap_get
  have I2 : Inv X pins σ (upd H1 (hp.objs.size + 1) (exo (hp.objs.size + 1) C none)) ⟨(hp.push (PySem.W.kdv_tup us)).push (PySem.HandSPX.excO C hp.objs.size), g, dr, tk, os⟩ :=
    I1.laid (t' := tk) (a := hp.objs.size + 1) (o := exo (hp.objs.size + 1) C none) (h' := (hp.push (PySem.W.kdv_tup us)).push (PySem.HandSPX.excO C hp.objs.size)) kk hsz (exo_ok hget)
  have r2 : Vals [V.ref (hp.objs.size + 1), y] (Value.ref (hp.objs.size + 1) :: us) := .cons rfl r1
  generalize ha' : hp.objs.size + 1 = a at *
  -- the promise of __init__
  have hsp : spXc X.K f [.ref a, y] (upd H1 a (exo a C none)) (fun v H2 => v = .non ∧ ∃ d, H1 d = none ∧ d ≠ a ∧ H2 = upd (upd (upd H1 a (exo a C none)) d (exd d [(f, y)])) a (exo a C (some d))) (fun _ _ _ => False) :=
    ⟨a, C, y, rfl, T, hno, upd_same, fun dx n ne => ⟨rfl, dx, by rw [upd_ne ne] at n; exact n, ne, rfl⟩⟩
  have hl : (Value.ref a :: us ++ []).length = ps.length := by
    rw [List.append_nil, ← F1.len _ _ _ _ hsp]
    exact r2.length.symm
  have hus : us.length ≤ sizeLine := by
    rw [← r1.length]
    show 1 ≤ sizeLine
    decide
  have hbb := hb _ (Value.ref a :: us) I2.kIn hl
  rw [List.append_nil] at hbb
  have hcall := PySem.HandSPX.call_own (w := X.w) (prog := X.prog) (A := X.A) (g := g) (d := dr) (t := tk) (os := os) (rest := us) F.excBase_Exception (fun Y => tail_has Y rs) (I1.kIn _ _ hC) (PySem.W.looks_findIn I1.kIn iC) (fun self => PySem.W.bind_fn I1.kIn self tI) hus (R := wants (MkP X pins σ Q) X.xe)
  refine wpAny_call (hcall ?_)
  rw [ha']
  refine codeAny_mono (F1.run _ X.stack _ _ ⟨Value.ref a :: us, []⟩ (Value.ref a :: us) _ _ (fun _ _ _ => False) (hr.make C us []) (I2.env0.make C us []) hbb r2 hsp) fun r s' hq' => ?_
  cases r with
  | error er => exact passL (X := X) pins σ _ _ er s' I2 hq'
  | ok fl =>
    cases fl with
    | ret u =>
      obtain ⟨v, H2, os2, bare2, un2, hok2, rv, ev, d, hd1, hda, eH⟩ := hq'
      subst ev
      obtain ⟨h2, g2, d2, t2, os'⟩ := s'
      refine ⟨rv, ?_⟩
      have ea : H2 a = some (exo a C (some d)) := by rw [eH, upd_same]
      have ed : H2 d = some (exd d [(f, y)]) := by rw [eH, upd_ne hda, upd_same]
      have e3 : upd (del H2 a) d (.xd [(f, y)]) = upd H1 d (.xd [(f, y)]) := by
        funext b
        by_cases hb : b = d
        · rw [hb, upd_same, upd_same]
        · rw [upd_ne hb, upd_ne hb]
          by_cases hba : b = a
          · rw [hba, del_same, hn]
          · rw [del_ne hba, eH, upd_ne hba, upd_ne hb, upd_ne hba]
      refine mk_end (raises_own T.exC T.tyC) I1 hsz kk un2 hok2 os2 bare2 ea ed hd1 ?_
      rw [e3]
      exact q1 d hd1
    | next => exact False.elim hq'
    | brk => exact False.elim hq'
    | cont => exact False.elim hq'
/-! ### raise C(e) -/
/-- a class of the module that may be raised by its name -/
structure Rs (P : Program) (w : World) (K : PySem.W.Frag) (mg : Str → Option Value) (base : Heap) (x f : Str) (C : Addr) : Prop where
  T : XcC K C
  no : PySem.W.findIn K (.ref C) f = some none
  mgC : mg x = some (.ref C)
  ini : ∃ fI fd ps, PySem.W.findIn K (.ref C) "__init__" = some (some (.ref fI)) ∧ PySem.W.typeIn K (.ref fI) = some (.type "function") ∧ FnOk P w K mg base (L2.CX P w) 1 fI fd ps (spXc K f) ∧ Binds K fd ps []
def sRaise (px : XP) (C : Addr) (f : Str) (te : TED) : TSD := fun D ρ => te ρ fun d => px C f d
theorem psd_raise {X : Cx} {Ct : Ct} {px : XP} {E : XK} {x f : Str} {C : Addr} {k : Nat} {e : Expr} {te : TED} {p cpos pos : Pos} (hc : X.calm = true) (tk : Takes X (fun cls d _ H => E cls d H)) (r : Rs X.prog X.w X.K X.mg X.base x f C) (hr : Room k X.A) (hk : 2 ≤ k) (hx : XO X Ct px (L2.CX X.prog X.w) E) (hg : Gl X x) (he : PD X Ct e te)
    (hdb : (x == ("__debug__" : Str)) = false := by decide) (hs : starEach [e] X.env = (false, eval e X.env) :: starEach [] X.env := by rfl) : PSD X Ct (.Raise (some (.Call (.Name x p) [e] [] cpos)) none pos) (sRaise px C f te) := by
  obtain ⟨fI, fd, ps, h1, h2, h3, h4⟩ := r.ini
  refine ⟨fun D D' ρ l h => h, ps_imp (ps_raise hc tk (pmk_xc r.T r.no h1 h2 h3 (hr.mono hk) h4 hg r.mgC he.run hdb hs)) fun D σ H ⟨F, O, ρ, R, q⟩ => ?_⟩
  refine ⟨F, O, ρ, R, he.mono _ _ _ (fun d k v H1 F1 s1 R1 r1 dx hn => ?_) q⟩
  exact hx.hpx C f d k dx v F1 O ρ σ _ (R1.new (o := .xd [(f, v)]) hn) upd_same (Rdd.stpR R1 (Stp.new hn) r1)
end DL

namespace DL
open PySem PySem.Spec PyProof.Rows L2

/-! ### told: try: return (s0, deed()) / except c as e: return (s1, e.f) -/
def TTas (K : PySem.W.Frag) (CF : Addr) (f s0 s1 : Str) : (XK → Hp → VK → Prop) → Hp → VK → Prop := fun tl H Q =>
  tl (fun cls d H' => ∃ b, PySem.W.exmOne K cls (.ref CF) = some b ∧ (b = true → cls = .ref CF ∧ ∃ dd fs v, d = some dd ∧ H' dd = some (.xd fs) ∧ fs.lookup f = some v ∧ ∀ p, H' p = none → Q (.ref p) (upd H' p (.tup [.str s1, v]))) ∧ (b = false → False)) H
    (fun v H1 => ([.str s0, v] : List V).length ≤ sizeLine ∧ ∀ p, H1 p = none → Q (.ref p) (upd H1 p (.tup [.str s0, v])))
theorem takes_len {X : Cx} {W : WX} (tk : Takes X W) : Takes X (fun c d σ H => σ.length = X.N.length → W c d σ H) := fun u s' ⟨a, B, sI, pins, σ, H, cls, d, e, I, nb, up, sky, na, os, ag, w⟩ =>
  tk u s' ⟨a, B, sI, pins, σ, H, cls, d, e, I, nb, up, sky, na, os, ag, w I.len⟩
section
variable {X : Cx}
theorem told_as {Ng : List Str} {x a e en f q s0 s1 : Str} {sg : Scope} {g CF : Addr} {cdg : Value} {j1 j2 k1 k2 : Nat} {p1 p2 p3 p4 p5 p6 p7 p8 p9 p10 p11 p12 p13 : Pos} (hge : sg.names.lookup e = some .globalImplicit) (hme : X.mg e = some (.ref CF)) (hde : (e == ("__debug__" : Str)) = false)
    (h0 : ∀ f : Addr, (L2.start Ng [V.ref f])[0]? = some (some (V.ref f))) (hNd : Ng.Nodup) (hN1 : Ng[1]? = some en) (hln : sg.names.lookup en = some .local) (hd1 : (en == ("__debug__" : Str)) = false) (hc1 : (en == ("__classdict__" : Str)) = false)
    (T : XfC X.K CF) (hno : PySem.W.findIn X.K (.ref CF) f = some none)
    (hsE : ∀ env : Env, starEach [.Constant (.str s0) j1 p9, .Call (.Name a p1) [] [] p2] env = (false, eval (.Constant (.str s0) j1 p9) env) :: starEach [.Call (.Name a p1) [] [] p2] env) (hsE2 : ∀ env : Env, starEach [.Call (.Name a p1) [] [] p2] env = (false, eval (.Call (.Name a p1) [] [] p2) env) :: starEach [] env)
    (hsF : ∀ env : Env, starEach [.Constant (.str s1) j2 p10, .Attribute (.Name en p11) f p12] env = (false, eval (.Constant (.str s1) j2 p10) env) :: starEach [.Attribute (.Name en p11) f p12] env) (hsF2 : ∀ env : Env, starEach [.Attribute (.Name en p11) f p12] env = (false, eval (.Attribute (.Name en p11) f p12) env) :: starEach [] env)
    (hb : ∀ (env : Env), attributeBase (.Name en p11) f env (eval (.Name en p11) env) = eval (.Name en p11) env) :
    LamX.GivesTo X Ng x sg g cdg [.Try [.Return (some (.Tuple [.Constant (.str s0) j1 p9, .Call (.Name a p1) [] [] p2] k1 p13)) p3] [.ExceptHandler (some (.Name e p4)) (some en) [.Return (some (.Tuple [.Constant (.str s1) j2 p10, .Attribute (.Name en p11) f p12] k2 p5)) p6] p7] [] [] p8] a q (TTas X.K CF f s0 s1) := by
  intro fa c' s H Q tl act hc h
  have hgl : Gl (cxOf C8.CX0 X.prog X.w X.K X.mg X.base Ng x sg g cdg X.A X.stack s H C8.E0).nox e := hge
  refine ⟨_, pss_one (ps_try_as (X := (cxOf C8.CX0 X.prog X.w X.K X.mg X.base Ng x sg g cdg X.A X.stack s H C8.E0).nox) (c := .ref CF) (i := 1) (n := en)
      (tb := fun W D σ H => ∃ Ech : XK, (∀ cls d σ' H', σ'.length = Ng.length → Ech cls d H' → W cls d σ' H') ∧ σ[0]? = some (some (.ref fa)) ∧ H c' = some (LamX.CodeO c' q) ∧ tl Ech H (fun v H1 => ([.str s0, v] : List V).length ≤ sizeLine ∧ ∀ p, H1 p = none → D.rt (.ref p) (upd H1 p (.tup [.str s0, v]))))
      rfl rfl hNd hN1 hln ⟨hgl, hde, .inl hme⟩ LamX.takes0 (fun W pn xe tk _ => ?_) (fun a oe cls d pn hz hf => pss_one (ps_ret (pe_tup (pa_cons pe_str (pa_cons (pe_xf T hno hz hf (pe_var (i := 1) hN1 (.inl hln) hd1 hc1) (hb _)) pa_nil (hsF2 _)) (hsF _)))))), ?_⟩
  · refine ⟨fun pins s' σ H' D I h' => ?_⟩
    obtain ⟨Ech, hW, h1, h2, h3⟩ := h'
    have hp := act _ pn xe Ech p1 p2 (takes_len tk) fun cls d σ' H' he hl => hW cls d σ' H' hl he
    have hq := pss_one (ps_ret (pos := p3) (pe_tup (x1 := k1) (pos := p13) (pa_cons (pe_str (x := s0) (j := j1) (pos := p9)) (pa_cons hp pa_nil (hsE2 _)) (hsE _))))
    exact hq.run pins s' σ H' D I ⟨h1, h2, h3⟩
  · refine ⟨fun cls d H' => ∃ b, PySem.W.exmOne X.K cls (.ref CF) = some b ∧ (b = true → cls = .ref CF ∧ ∃ dd fs v, d = some dd ∧ H' dd = some (.xd fs) ∧ fs.lookup f = some v ∧ ∀ p, H' p = none → Q (.ref p) (upd H' p (.tup [.str s1, v]))) ∧ (b = false → False), fun cls d σ' H' hlen ⟨b, e1, e2, e3⟩ => ⟨b, e1, fun hb a _ => ?_, fun hb => e3 hb⟩, h0 fa, hc, h⟩
    obtain ⟨rfl, dd, fs, v, ed, ea, l, k⟩ := e2 hb
    refine ⟨.ref a, ?_, rfl, rfl, dd, fs, v, ed, ea, l, (by show 2 ≤ sizeLine; decide), k⟩
    have h2 : 1 < Ng.length := (List.getElem?_eq_some_iff.mp hN1).1
    exact List.getElem?_set_self (by rw [hlen]; exact h2)
end
end DL

namespace DL
open PySem PySem.Spec PyProof.Rows L2

/-! ### told(lambda: body), in data -/
def unown : Slot → Slot
  | .own _ => .un
  | .own2 _ => .un
  | s => s
def tTold (tb : XP → TED) (CF : Addr) (f s0 s1 : Str) : TED := fun ρ P => tb (fun c nm d => c = CF ∧ nm = f ∧ P (.tuple [.str s1, d])) (ρ.map unown) fun d => P (.tuple [.str s0, d])
def XM (tb : XP → TED) : Prop := ∀ px px' : XP, (∀ c n d, px c n d → px' c n d) → ∀ ρ P, tb px ρ P → tb px' ρ P
theorem xm_call {Fd : FD} {C : Ct} {X : Cx} {es : List Expr} {t : TAD} (h : DA X C es t) : XM fun px => tCallD Fd px t := fun px px' k ρ P => h.mono _ _ _ fun as => Fd.mono _ _ _ _ _ (fun _ z => z) k
theorem xm_call' {Fd : FD} {t : TAD} (h : ∀ ρ (P P' : List Arg → Prop), (∀ d, P d → P' d) → t ρ P → t ρ P') : XM fun px => tCallD Fd px t := fun px px' k ρ P => h _ _ _ fun as => Fd.mono _ _ _ _ _ (fun _ z => z) k
theorem xm_callK {Fd : FD} {is : List Nat} {t : TLD} (h : ∀ ρ (P P' : List D → Prop), (∀ d, P d → P' d) → t ρ P → t ρ P') : XM fun px => tCallK Fd px is t := fun px px' k ρ P => h _ _ _ fun as => Fd.mono _ _ _ _ _ (fun _ z => z) k
theorem xm_if {t : TTD} {ta tb : XP → TED} (ht : MonoT t) (ha : XM ta) (hb : XM tb) : XM fun px => tIfD t (ta px) (tb px) := fun px px' k ρ P => ht _ _ _ fun c h => mono_ite h (ha px px' k ρ P) (hb px px' k ρ P)
section
variable {K : PySem.W.Frag} {C : Ct} {F F' : Addr → Prop} {O : Fps} {ρ : List Slot} {σ : L2.St} {H H1 H' : Hp}
/-- a lambda has been made: tables may have grown -/
theorem stp_ext (R : Rel K C F O ρ σ H) (e : LamX.ExtN H H1) : Stp C.q F F H H1 :=
  ⟨⟨fun b o h _ _ n => e b o h n, fun b o h n => ⟨o, e b o h n, n⟩⟩, fun _ h => h, fun _ h => .inl h⟩
theorem rel_ext (R : Rel K C F O ρ σ H) (e : LamX.ExtN H H1) (t : LamX.Tabs C.q.w.T H1) : Rel K C F O ρ σ H1 := by
  refine R.step (stp_ext R e) ?_ t fun a h h' => absurd h h'
  obtain ⟨cells, m, k, h1, h2, h3, ob, φ, h4⟩ := R.dk
  exact ⟨cells, m, k, e _ _ h1 (fun ps z => nomatch z), e _ _ h2 (fun ps z => nomatch z), h3, ob, φ, e _ _ h4 (fun ps z => nomatch z)⟩
/-- the same seen as a new beginning -/
theorem rel_anew (R : Rel K C F O ρ σ H) : Rel K ⟨C.q, H, F⟩ F (fun _ => []) (ρ.map unown) σ H where
  ln := by rw [List.length_map]; exact R.ln
  dk := R.dk
  tb := R.tb
  fz := R.fz
  kp := KpX.refl _ _
  up := fun _ h => h
  nw := fun _ h => .inl h
  sl := fun i s e => by
    rw [List.getElem?_map] at e
    cases es : ρ[i]? with
    | none => rw [es] at e; cases e
    | some s0 =>
      rw [es] at e
      cases e
      have z := R.sl i s0 es
      cases s0 <;> first | exact z | exact True.intro
  oo := fun i a ha => nomatch ha
  dj := fun i j _ a ha => nomatch ha
theorem rel_back {F1 : Addr → Prop} {O1 : Fps} {ρ1 : List Slot} {σ1 : L2.St} (R : Rel K C F O ρ σ H) (R1 : Rel K ⟨C.q, H, F⟩ F1 O1 ρ1 σ1 H') : Stp C.q F F1 H H' ∧ Rel K C F1 O ρ σ H' := by
  have s : Stp C.q F F1 H H' := ⟨R1.kp, R1.up, R1.nw⟩
  exact ⟨s, R.step s R1.dk R1.tb fun a h _ => R1.fz a h⟩
end
section
variable {X : Cx} {C : Ct}
theorem pd_told {x a f s0 s1 : Str} {g c P CF : Addr} {k : Nat} {pg : Arguments} {bg : List Stmt} {sg : Scope} {dV kV doc pm cdv ct oc : Value} {an od : Option Addr} {osl : Array (Option Value)} {Ng : List Str}
    {params : Arguments} {body : Expr} {scope : Scope} {tb : XP → TED} {p lpos pos : Pos} (hg : Gl X x) (hm : X.mg x = some (.ref g)) (hk : PySem.W.keepIn X.K (.ref g) = true)
    (lk : X.K.lookup g = some ⟨oc, od, .func (PySem.W.fnOf x x pg bg sg dV kV doc pm an cdv ct), osl⟩) (hcg : PySem.W.codeIn X.K cdv x = true) (hb : L2.Binds X.K (PySem.W.fnOf x x pg bg sg dV kV doc pm an cdv ct) [a] []) (Sg : FnScope Ng [a] sg) (hNg : Ng[0]? = some a) (hva : Vis sg a)
    (hG : LamX.GivesTo X Ng x sg g cdv bg a (X.env.qual ++ "<lambda>") (TTas X.K CF f s0 s1)) (hxm : PySem.W.exmOne X.K (.ref CF) (.ref CF) = some true)
    (TB : LamX.TabB X.base X.mg c P) (hcode : X.env.code = .ref c) (hmT : (P, X.env.qual ++ "<lambda>") ∈ C.q.w.T) (hu : ∀ p ∈ C.q.w.T, p.1 = P → p.2 = X.env.qual ++ "<lambda>") (hr : Room (k + 2) X.A) (L : LamX.LamS X.env.scope scope) (hdef : defaultsOf params X.env = ([], []))
    (hbind : ∀ (q : Str) (cl : List (Str × Addr)) (pm cv ctv : Value), bindArgs (PySem.W.kla_fn "<lambda>" q params body scope cl pm cv ctv) ⟨[], []⟩ = pure [])
    (hbody : ∀ (A : Around) (outer : List Env) (s : Shared) (H : Hp) (E : XK) (f c' : Addr) (C' : Ct) (px : XP), C'.q = C.q → Room k (A.deeper (LamX.lamEnv X scope s.heap.objs.size f c')) → XO (LamX.lamCx X A outer s H E scope f c') C' px (L2.CX X.prog X.w) E →
      PD (LamX.lamCx X A outer s H E scope f c') C' body (tb px))
    (hxmo : XM tb) (hmo : ∀ px, MonoE (tb px))
    (hdb : (x == ("__debug__" : Str)) = false := by decide) (hd : (a == ("__debug__" : Str)) = false := by decide) (hcd : (a == ("__classdict__" : Str)) = false := by decide) :
    PD X C (.Call (.Name x p) [.Lambda params body scope lpos] [] pos) (tTold tb CF f s0 s1) := by
  refine ⟨fun ρ P P' k h => hxmo _ _ (fun c n d ⟨h1, h2, h3⟩ => ⟨h1, h2, k _ h3⟩) _ _ (hmo _ _ _ _ (fun d h => k _ h) h), pe_imp (LamX.pe_lamcall (T := C.q.w.T) (TT := TTas X.K CF f s0 s1)
    (t := fun E σ H Q => ∃ C' px, C'.q = C.q ∧ (∀ c nm d, px c nm d → ∀ dx v F O ρ σ H, Rel X.K C' F O ρ σ H → H dx = some (.xd [(nm, v)]) → Rdd X.K F H d v → E (.ref c) (some dx) H) ∧ lift (rE X.K) X.K C' (tb px) σ H Q)
    hg hm hk lk hcg hb Sg hNg hva hG TB hcode hmT hu hr L hdef hbind (fun A outer s H E f c' hr2 => ⟨fun pins s1 σ1 H1 Q I ⟨C', px, e, hx, h⟩ => (hbody A outer s H E f c' C' px e hr2
      ⟨fun pins σ H1 s1 e s' I c => passes_call (L2.takes_of rfl rfl rfl rfl) (fun _ _ _ _ h => h) pins σ H1 s1 e s' I c, hx⟩).run.run pins s1 σ1 H1 Q I h⟩) hdb hd hcd) fun σ H Q ⟨F, O, ρ, R, q⟩ => ⟨R.tb, fun H1 eN T1 => ?_⟩⟩
  have R1 := rel_ext R eN T1
  have S1 := stp_ext R eN
  refine ⟨⟨C.q, H1, F⟩, fun c nm d => c = CF ∧ nm = f ∧ (∀ v H' F', Stp C.q F F' H H' → Rel X.K C F' O ρ σ H' → rE X.K F' O H H' (.tuple [.str s1, d]) v → Q v H'), rfl, ?_, F, fun _ => [], ρ.map unown, rel_anew R1, hmo _ _ _ _ (fun d h v H2 F2 s2 R2 r2 => ?_) q⟩
  · rintro c nm d ⟨rfl, rfl, hq⟩ dx v F2 O2 ρ2 σ2 H2 R2 e r
    obtain ⟨s2, R2'⟩ := rel_back R1 R2
    refine ⟨true, hxm, fun _ => ⟨rfl, dx, _, v, rfl, e, by simp [List.lookup], fun p hp => ?_⟩, fun z => nomatch z⟩
    obtain ⟨s3, R3, r3⟩ := new_tup (ds := [.str s1, d]) (vs := [.str s1, v]) R2' ⟨_, _, rfl, rfl, _, _, rfl, r, rfl⟩ hp
    exact hq _ _ _ ((S1.trans s2).trans s3) R3 r3
  · refine ⟨by show 2 ≤ sizeLine; decide, fun p hp => ?_⟩
    obtain ⟨s2', R2'⟩ := rel_back R1 R2
    obtain ⟨s3, R3, r3⟩ := new_tup (ds := [.str s0, d]) (vs := [.str s0, v]) R2' ⟨_, _, rfl, rfl, _, _, rfl, r2, rfl⟩ hp
    exact h _ _ _ ((S1.trans s2').trans s3) R3 r3
end
end DL

namespace DL
open PySem PySem.Spec PyProof.Rows L2

/-! ### the end of a law: the def called by the judge's caller; the table of modules is known -/
def Start0 (K : PySem.W.Frag) (cs : List (Addr × Addr)) (a : Addr) (ns : List Int) (H : Hp) : Prop :=
  (∀ p ∈ cs, H p.2 = some (.tbl #[])) ∧ SqL K H a (ns.map V.int) ∧ (∃ o φ, H sysModules = some (.frz o (.ext φ)))
theorem law_end {P : Program} {w : World} {K : PySem.W.Frag} {mg mb : Str → Option Value} {k : Nat} {fa a : Addr} {cs : List (Addr × Addr)} {fd : FuncData} {x : Str} {sp : Sp} {s₁ : Shared} {vs : List Value} {ns : List Int}
    (KX : K.In s₁.heap) (hns : s₁.heap.Ns mainGlobals mg) (hb : s₁.heap.Ns builtinsNs mb) (hbb : ∀ x : Str, x ≠ "__name__" → mb x = bootBuiltins x) (hlim : s₁.heap.NoLimit) (hsys : ∃ mm, s₁.heap.Ns sysModules mm) (nS : K.lookup sysModules = none) (hg : s₁.gens = #[])
    (hT : ∀ p ∈ cs, s₁.heap.get? p.2 = some { cls := .none, data := .fields #[] }) (nT : ∀ p ∈ cs, K.lookup p.2 = none) (C : ∀ p ∈ cs, PySem.W.CodeHd s₁.heap p.1 p.2)
    (hbm : ∃ (bm : Addr) (ob : Obj), mg "__builtins__" = some (.ref bm) ∧ bm ≠ builtinsNs ∧ s₁.heap.get? bm = some ob ∧ ob.cls = .type "module" ∧ ob.dict = some builtinsNs ∧ ob.data = .plain)
    (ha : s₁.heap.get? a = some { cls := .type "list", data := .seq vs.toArray }) (hi : IntsAre vs ns) (hl : ns.length ≤ sizeLine) (hr : Room k callerA)
    (F : ∀ base : Heap, K.In base → base.Ns mainGlobals mg → (∀ p ∈ cs, LamX.TabB base mg p.1 p.2) → FnR NoGu P w K mg base (L2.CX P w) k fa fd [x] sp) (hbind : ∀ (s : Shared) (u : Value), BindsTo s fd ⟨[u], []⟩ [(x, u)])
    (hsp : ∀ H : Hp, Start0 K cs a ns H → sp [.ref a] H (fun v _ => v = .bl true) fun _ _ _ => False) :
    codeAny (model P w) callerA (.call (.ref fa) ⟨[.ref a], []⟩) (fun r s' => r = .ok (.ret (.bool true)) ∧ OldK s₁.heap s'.heap ∧ s'.os = s₁.os ∧ AllBare s'.gens) s₁ := by
  have rv := vals_ints hi
  have lenV := hi.length
  obtain ⟨mm, oS, esS, epS, eS, dS, _⟩ := hsys
  have isT : ∀ b : Addr, b ∈ cs.map (·.2) → s₁.heap.get? b = some { cls := .none, data := .fields #[] } := fun b hb => by
    obtain ⟨p, hp, e⟩ := List.mem_map.mp hb
    rw [← e]
    exact hT p hp
  have sT : sysModules ∉ cs.map (·.2) := fun z => by
    have q := isT _ z
    rw [eS] at q
    cases q
    cases dS
  have sa : a ≠ sysModules := fun z => by
    rw [z, eS] at ha
    cases ha
    cases dS
  have aT : a ∉ cs.map (·.2) := fun z => by
    have q := isT a z
    rw [ha] at q
    cases congrArg Obj.data (Option.some.inj q)
  have memT : ∀ p ∈ cs, p.2 ∈ cs.map (·.2) := fun p hp => List.mem_map.mpr ⟨p, hp, rfl⟩
  -- the heap that is tracked: the tables, the table of modules, the script (unless it is of the written part)
  let H : Hp := fun b => if b = sysModules then some (.frz oS (.ext fun _ => True)) else if b ∈ cs.map (·.2) then some (.tbl #[]) else if b = a ∧ K.lookup a = none then some (.frz { cls := .type "list", data := .seq vs.toArray } (.lst (ns.map V.int))) else none
  have HS : H sysModules = some (.frz oS (.ext fun _ => True)) := if_pos rfl
  have HT : ∀ b, b ∈ cs.map (·.2) → H b = some (.tbl #[]) := fun b hb => by
    show (if b = sysModules then _ else _) = _
    rw [if_neg (fun z => sT (by rw [← z]; exact hb)), if_pos hb]
  have HA : K.lookup a = none → H a = some (.frz { cls := .type "list", data := .seq vs.toArray } (.lst (ns.map V.int))) := fun h => by
    show (if a = sysModules then _ else _) = _
    rw [if_neg sa, if_neg aT, if_pos ⟨rfl, h⟩]
  have Hcases : ∀ b u, H b = some u → (b = sysModules ∧ u = .frz oS (.ext fun _ => True)) ∨ (b ∈ cs.map (·.2) ∧ u = .tbl #[]) ∨ (b = a ∧ K.lookup a = none ∧ u = .frz { cls := .type "list", data := .seq vs.toArray } (.lst (ns.map V.int))) := fun b u e => by
    have e' : (if b = sysModules then some (HO.frz oS (.ext fun _ => True)) else if b ∈ cs.map (·.2) then some (.tbl #[]) else if b = a ∧ K.lookup a = none then some (.frz { cls := .type "list", data := .seq vs.toArray } (.lst (ns.map V.int))) else none) = some u := e
    split at e'
    · exact .inl ⟨‹_›, (Option.some.inj e').symm⟩
    · split at e'
      · exact .inr (.inl ⟨‹_›, (Option.some.inj e').symm⟩)
      · split at e'
        · rename_i h
          exact .inr (.inr ⟨h.1, h.2, (Option.some.inj e').symm⟩)
        · cases e'
  have hS : SqL K H a (ns.map V.int) := by
    cases hk : K.lookup a with
    | none => exact .inl (.inr ⟨_, HA hk⟩)
    | some o =>
      have e := KX a o hk
      rw [ha] at e
      cases e
      exact .inr ⟨_, vs.toArray, _, hk, rfl, rfl, rfl, by rw [List.size_toArray, lenV]; exact hl, by simpa using rv⟩
  have hok : HOk P w H s₁.heap := fun b u e => by
    rcases Hcases b u e with ⟨rfl, rfl⟩ | ⟨hb, rfl⟩ | ⟨rfl, _, rfl⟩
    · exact ⟨eS, True.intro, ⟨oS, eS⟩, fun _ _ _ _ => True.intro⟩
    · exact isT b hb
    · exact ⟨ha, by rw [List.length_map]; exact hl, vs, _, rv, ha⟩
  have base_of : ∀ {b : Addr} {o : Obj}, s₁.heap.get? b = some o → H b = none → (hidT s₁.heap H).get? b = some o := fun e n => hidT_get e n
  have noD : ∀ {b : Addr} {o : Obj}, s₁.heap.get? b = some o → b ≠ sysModules → (∀ vs n, o.data ≠ .seq vs n) → o.data ≠ .fields #[] → H b = none := fun {b o} e h0 h1 h2 => by
    cases q : H b with
    | none => rfl
    | some u =>
      rcases Hcases b u q with ⟨e', _⟩ | ⟨hb, _⟩ | ⟨e', _, _⟩
      · exact absurd e' h0
      · rw [isT b hb] at e
        cases e
        exact (h2 rfl).elim
      · rw [e', ha] at e
        cases e
        exact (h1 _ _ rfl).elim
  have nsK : ∀ {b : Addr} {m : Str → Option Value}, b ≠ sysModules → s₁.heap.Ns b m → (hidT s₁.heap H).Ns b m := fun {b m} h0 ⟨o, es, ep, e, d, r⟩ =>
    ⟨o, es, ep, base_of e (noD e h0 (fun vs n z => by rw [d] at z; cases z) fun z => by rw [d] at z; cases z), d, r⟩
  have hKb : K.In (hidT s₁.heap H) := fun b o e => base_of (KX b o e) (by
    cases q : H b with
    | none => rfl
    | some u =>
      rcases Hcases b u q with ⟨e', _⟩ | ⟨hb, _⟩ | ⟨e', h, _⟩
      · rw [e', nS] at e
        cases e
      · obtain ⟨p, hp, ep⟩ := List.mem_map.mp hb
        rw [← ep, nT p hp] at e
        cases e
      · rw [e', h] at e
        cases e)
  have hM : L2.Mod K mg (hidT s₁.heap H) := ⟨hKb, nsK (by decide) hns, ⟨mb, nsK (by decide) hb, hbb⟩, let ⟨mc, h1, h2⟩ := hlim; ⟨mc, nsK (by decide) h1, h2⟩⟩
  have TB : ∀ p ∈ cs, LamX.TabB (hidT s₁.heap H) mg p.1 p.2 := fun p hp => by
    have hTp := hT p hp
    refine ⟨?_, ?_, fun z => ?_⟩
    · obtain ⟨o, us, file, tf, flags, tg, inF, text, tt, e1, r1, r2, r3, r4, r5, r6, r7, r8, hne⟩ := C p hp
      refine ⟨o, us, file, tf, flags, tg, inF, text, tt, base_of e1 (noD e1 (fun z => ?_) (fun vs n z => ?_) fun z => ?_), r1, r2, r3, r4, r5, r6, r7, r8, hne⟩
      · rw [z, eS] at e1
        cases e1
        rw [dS] at r2
        cases r2
      · rw [r2] at z
        cases z
      · rw [r2] at z
        cases z
        simp at r3
    · obtain ⟨bm, ob, b1, b2, b3, b4, b5, b6⟩ := hbm
      have nG : bm ≠ mainGlobals := fun q => by
        obtain ⟨o, es, ep, e, hd, _⟩ := hns
        rw [q, e] at b3
        cases b3
        rw [hd] at b6
        cases b6
      have nP : bm ≠ p.2 := fun q => by
        rw [q, hTp] at b3
        cases b3
        cases b6
      refine ⟨bm, ob, b1, b2, nG, nP, base_of b3 (noD b3 (fun z => ?_) (fun vs n z => ?_) fun z => ?_), b4, b5, b6⟩
      · rw [z, eS] at b3
        cases b3
        rw [dS] at b6
        cases b6
      · rw [b6] at z
        cases z
      · rw [b6] at z
        cases z
    · obtain ⟨o, es, ep, e, hd, _⟩ := hns
      rw [z, hTp] at e
      cases e
      cases hd
  have e0 : Env0 P w K mg (hidT s₁.heap H) callerA [] s₁ H := ⟨rfl, hM, fun b o e => of_hidT e, Nat.le_of_eq (hidT_size _ _), trivial, fun b hb => absurd (show b ∈ ([] : List Addr) from hb) (by simp), hok, .of_eq hg⟩
  refine codeAny_mono ((F _ hKb (nsK (by decide) hns) TB).run callerA [] s₁ H ⟨[.ref a], []⟩ [.ref a] [.ref a] _ _ hr rfl e0 (hbind s₁ (.ref a)) (.cons rfl .nil) (hsp H ⟨fun p hp => HT _ (memT p hp), hS, oS, _, HS⟩)) fun r s' h => ?_
  cases r with
  | error e =>
    obtain ⟨_, _, _, _, _, _, _, _, _, _, _, _, z⟩ := (show L2.CX P w [] H s₁ _ e s' from h)
    exact z.elim
  | ok fl =>
    cases fl with
    | next => exact False.elim h
    | brk => exact False.elim h
    | cont => exact False.elim h
    | ret u =>
      obtain ⟨v, H', os, bare, un, hok', r', q⟩ := h
      cases (show v = .bl true from q)
      obtain rfl : u = Value.bool true := r'
      have key : ∀ b o, b ∉ cs.map (·.2) → s₁.heap.get? b = some o → s'.heap.get? b = some o := fun b o nb e => by
        cases q : H b with
        | none => exact un.keep b o e q (by intro z; exact absurd (show b ∈ ([] : List Addr) from z) (by simp)) (by simp)
        | some u =>
          have frz : ∀ {ob : Obj} {t : HO}, H b = some (.frz ob t) → s'.heap.get? b = some o := fun {ob t} z => by
            have z2 := un.frzs b ob _ z
            obtain ⟨e1, _⟩ := hok b _ z
            obtain ⟨e2, _⟩ := hok' b _ z2
            rw [e] at e1; cases e1
            exact e2
          rcases Hcases b u q with ⟨_, rfl⟩ | ⟨hb, _⟩ | ⟨_, _, rfl⟩
          · exact frz q
          · exact absurd hb nb
          · exact frz q
      have grown : ∀ p ∈ cs, ∃ more : Array Value, s'.heap.get? p.2 = some { cls := .none, data := .fields more } := fun p hp => by
        obtain ⟨more, z⟩ := un.tbls p.2 #[] (HT _ (memT p hp))
        exact ⟨_, hok' p.2 _ z⟩
      refine ⟨rfl, ⟨fun b o e => ?_, fun b o e => ?_⟩, os, bare⟩
      · by_cases hb : b ∈ cs.map (·.2)
        · obtain ⟨p, hp, ep⟩ := List.mem_map.mp hb
          obtain ⟨more, hm⟩ := grown p hp
          rw [← ep] at e ⊢
          rw [hT p hp] at e
          cases e
          exact .inr (.inl ⟨((C p hp).tab (hT p hp)).isCodeTable, rfl, #[], more, rfl, by rw [Array.empty_append]; exact hm⟩)
        · exact .inl (key b o hb e)
      · by_cases hb : b ∈ cs.map (·.2)
        · obtain ⟨p, hp, ep⟩ := List.mem_map.mp hb
          obtain ⟨more, hm⟩ := grown p hp
          rw [← ep]
          exact ⟨_, hm⟩
        · exact ⟨o, key b o hb e⟩
/-- what is to be shown of the law at the head's heap h -/
def LawR (l : PySem.W.OpenLaw) (w : World) (K : PySem.W.Frag) (k n : Nat) (x : Str) (mg : Str → Option Value) (fa : Addr) (h : Heap) : Prop :=
  ∃ (fd : FuncData) (cs : List (Addr × Addr)) (sp : Sp), (∀ p ∈ cs, h.get? p.2 = some { cls := .none, data := .fields #[] }) ∧ (∀ p ∈ cs, K.lookup p.2 = none) ∧ (∀ p ∈ cs, PySem.W.CodeHd h p.1 p.2) ∧ K.lookup sysModules = none ∧ (∀ (s : Shared) (u : Value), BindsTo s fd ⟨[u], []⟩ [(x, u)]) ∧
    (∀ (H : Hp) (a : Addr) (ns : List Int), ns.length ≤ n → Start0 K cs a ns H → sp [.ref a] H (fun v _ => v = .bl true) fun _ _ _ => False) ∧
    ∀ base : Heap, K.In base → base.Ns mainGlobals mg → (∀ p ∈ cs, LamX.TabB base mg p.1 p.2) → FnR NoGu l.prog w K mg base (L2.CX l.prog w) k fa fd [x] sp
theorem walkR {l : PySem.W.OpenLaw} {n k : Nat} {q : Program} {loose : List Str} {XP : (Str → Option Value) → Heap → Prop} {YP : World → Heap → Prop} {d : DefRec} {K : Params → PySem.W.Frag} {x : Str}
    (hn : l.most = some n) (hn2 : n ≤ sizeLine) (hdf : d.params.defaults = []) (hr : Room k callerA) (hY : ∀ (w : World) (h : Heap), YP w h → (K w.params).In h) (hi : importsNone q = true)
    (F : ∀ (w : World) (mg : Str → Option Value) (fa : Addr) (h : Heap), YP w h → (K w.params).In h → h.Ns mainGlobals mg → mg d.name = some (.ref fa) → LawR l w (K w.params) k n x mg fa h) :
    PySem.W.WalkO q loose XP YP l.row.toRowW d [] (fun f vs => PySem.call f vs) := by
  refine Att.attach_callB hn hdf fun w s₀ s₁ mg mb fa o pm cd doc a vs ns G Y ho hd hcd hmg hobj hints hlen hbits hg => ?_
  have KX := hY w _ Y
  obtain ⟨fd, cs, sp, hT, nT, C, nS, hb, hsp, hF⟩ := F w mg fa _ Y KX G.T.g hmg
  obtain ⟨mm, hmm, _⟩ := (G.T.seer hi).mods
  exact law_end KX G.T.g G.T.b G.T.builtins G.T.nolimit ⟨mm, hmm⟩ nS hg hT nT C G.T.bmain hobj hints (Nat.le_trans hlen hn2) hr hF hb fun H h0 => hsp H a ns hlen h0
end DL

namespace DL
open PySem PySem.Spec PyProof.Rows L2

/-! ### comparisons as tests -/
section
variable {X : Cx} {C : Ct} {e e' a b : Expr} {te ta tb : TED} {pos p2 : Pos}
theorem dt_2 {r : R2} {g : D → D → (D → Prop) → Prop} (hp : ∀ {t u : TE}, PE X a t → PE X b u → PT X e' (tTest (tOp r t u))) (h : By2 X C rE r g) (mg : Mo2 g) (ha : PO X C a ta) (hb : PO X C b tb) : DT X C e' (tTestD (dBi g ta tb)) :=
  ⟨fun ρ P P' k => ha.mono _ _ _ fun d => hb.mono _ _ _ fun d' => mg _ _ _ _ fun d => mono_isB k, pt_imp (hp ha.run hb.run) fun σ H Q ⟨F, O, ρ, R, q⟩ => ⟨F, O, ρ, R, ha.mono _ _ _ (fun x k v H1 F1 s1 R1 r1 =>
    ⟨F1, O, ρ, R1, hb.mono _ _ _ (fun y k2 u H2 F2 s2 R2 r2 => h R2 (rO_stp R1 s2 r1) r2 (mg _ _ _ _ (fun z kz vz H3 F3 s3 R3 r3 => by
      obtain ⟨b, e, hb⟩ := rdd_isB r3 kz
      exact ⟨b, e, hb H3 F3 ((s1.trans s2).trans s3) R3⟩) k2)) k⟩) q⟩⟩
theorem dt_lt (ha : PO X C a ta) (hb : PO X C b tb) : DT X C (.Compare a [.Lt] [b] pos) (tTestD (dBi gLt ta tb)) := dt_2 (fun h h' => pt_cmpR op_lt h h' (nomark _)) (by_I0 fun _ _ _ _ _ => by exact rfl) mo_gI0 ha hb
theorem dt_le (ha : PO X C a ta) (hb : PO X C b tb) : DT X C (.Compare a [.LtE] [b] pos) (tTestD (dBi gLe ta tb)) := dt_2 (fun h h' => pt_cmpR op_le h h' (nomark _)) (by_I0 fun _ _ _ _ _ => by exact rfl) mo_gI0 ha hb
theorem dt_gt (ha : PO X C a ta) (hb : PO X C b tb) : DT X C (.Compare a [.Gt] [b] pos) (tTestD (dBi gGt ta tb)) := dt_2 (fun h h' => pt_cmpR op_gt h h' (nomark _)) (by_I0 fun _ _ _ _ _ => by exact rfl) mo_gI0 ha hb
theorem dt_ge (ha : PO X C a ta) (hb : PO X C b tb) : DT X C (.Compare a [.GtE] [b] pos) (tTestD (dBi gGe ta tb)) := dt_2 (fun h h' => pt_cmpR op_ge h h' (nomark _)) (by_I0 fun _ _ _ _ _ => by exact rfl) mo_gI0 ha hb
theorem dt_eqS (ha : PO X C a ta) (hb : PO X C b tb) : DT X C (.Compare a [.Eq] [b] pos) (tTestD (dBi (gEqS false) ta tb)) := dt_2 (fun h h' => pt_cmpR op_eq h h' (nomark _)) by_eqS mo_gEqS ha hb
theorem dt_neS (ha : PO X C a ta) (hb : PO X C b tb) : DT X C (.Compare a [.NotEq] [b] pos) (tTestD (dBi (gEqS true) ta tb)) := dt_2 (fun h h' => pt_cmpR op_ne h h' (nomark _)) by_neS mo_gEqS ha hb
theorem run_nilT {neg : Bool} {op : CmpOp} (he : PO X C e te) (hnm : ∀ {t u : TE}, PE X e t → PE X (.List [] p2) u → PT X (.Compare e [op] [.List [] p2] pos) (tTest (tOp (rEqNil X.K neg) t u))) : DT X C (.Compare e [op] [.List [] p2] pos) (tTestD (dEqNil neg te)) := by
  refine ⟨fun ρ P P' k => he.mono _ _ _ fun d => mo_gNil d _ _ fun d => mono_isB k, pt_imp (hnm he.run (pe_lst pa_nil)) fun σ H Q ⟨F, O, ρ, R, q⟩ => ⟨F, O, ρ, R, he.mono _ _ _ (fun d k v H1 F1 s1 R1 r1 => ?_) q⟩⟩
  refine ⟨Nat.zero_le _, fun p n => ?_⟩
  have R2 := R1.new (o := .lst []) n
  refine by_nil (H := H1) R2 ?_ upd_same (mo_gNil d _ _ (fun z hz vz rz => by
    obtain ⟨b, e, hb⟩ := rdd_isB rz hz
    exact ⟨b, e, hb _ F1 (s1.trans (Stp.new n)) R2⟩) k)
  have z := rO_stp R1 (Stp.new (o := .lst []) n) (show rO X.K F1 O H1 H1 d v from by cases d <;> exact r1)
  cases d <;> exact z
theorem dt_eqNil (hu : X.A.units + 64 < cLine) (he : PO X C e te) : DT X C (.Compare e [.Eq] [.List [] p2] pos) (tTestD (dEqNil false te)) := run_nilT he fun h h' => pt_cmpR (op_eqNil hu) h h' (nomark _)
theorem dt_neNil (hu : X.A.units + 64 < cLine) (he : PO X C e te) : DT X C (.Compare e [.NotEq] [.List [] p2] pos) (tTestD (dEqNil true te)) := run_nilT he fun h h' => pt_cmpR (op_neNil hu) h h' (nomark _)
theorem pd_ifE {c : Expr} {t : TTD} (hc : DT X C c t) (ha : PD X C a ta) (hb : PD X C b tb) : PD X C (.IfExp c a b pos) (tIfD t ta tb) := pv_if (R' := rE) hc ha hb
end
/-- the names of built-ins that stand for themselves -/
structure Blt (mg : Str → Option Value) : Prop where
  int : mg "int" = none
  list : mg "list" = none
  max : mg "max" = none
  len : mg "len" = none
  abs : mg "abs" = none
  str : mg "str" = none
  tuple : mg "tuple" = none
  bool : mg "bool" = none
  isinstance : mg "isinstance" = none
  repr : mg "repr" = none
  range : mg "range" = none
  enumerate : mg "enumerate" = none
  zip : mg "zip" = none
/-! ### defs of the text, their promises -/
structure Df (K : PySem.W.Frag) (mg : Str → Option Value) (x : Str) (st : Stmt) (ps : List Str) : Prop where
  ex : ∃ f fd, L2.Fun K x x st f fd ∧ mg x = some (.ref f) ∧ Binds K fd ps []
theorem cal_mk {G : Around → Prop} {P : Program} {w : World} {K : PySem.W.Frag} {mg : Str → Option Value} {base : Heap} {k : Nat} {x : Str} {st : Stmt} {N ps : List Str} {wd : Wd} {Fd : FD}
    (D : Df K mg x st ps) (S : FnScope N ps (defScope st)) (hGd : ∀ A env, G A → G (A.deeper env)) (len : ∀ as Q Z, Fd.run as Q Z → as.length = ps.length)
    (hbody : ∀ (f : Addr) (cdv : Value) (A : Around) (outer : List Env) (s : Shared) (H : Hp) (E : XK) (C : Ct) (px : XP), Room k (A.deeper (envOfC x (defScope st) s.heap.objs.size f cdv)) → G (A.deeper (envOfC x (defScope st) s.heap.objs.size f cdv)) → C.q.w = wd →
      XO (cxOf (L2.CX P w) P w K mg base N x (defScope st) f cdv A outer s H E) C px (L2.CX P w) E →
      ∀ as Q, Fd.run as Q px → ∃ t, PSDs (cxOf (L2.CX P w) P w K mg base N x (defScope st) f cdv A outer s H E) C (defBody st) t ∧ t { nx := fun _ => Q .none, rt := Q } (startD N as)) :
    Cal G P w K mg base (k + 1) x ps wd Fd := by
  obtain ⟨f, fd, F, hm, hb⟩ := D.ex
  exact ⟨f, fd, fnr_mk F S hGd len (fun cdv _ => hbody f cdv), hm, F.kp, hb⟩
/-- .. with its code object known (a def that makes lambdas) -/
structure DfC (K : PySem.W.Frag) (mg : Str → Option Value) (x : Str) (st : Stmt) (ps : List Str) (c : Addr) : Prop where
  ex : ∃ f fd, L2.Fun K x x st f fd ∧ mg x = some (.ref f) ∧ Binds K fd ps [] ∧ fd.code = .ref c
theorem cal_mkC {G : Around → Prop} {P : Program} {w : World} {K : PySem.W.Frag} {mg : Str → Option Value} {base : Heap} {k : Nat} {x : Str} {st : Stmt} {N ps : List Str} {wd : Wd} {Fd : FD} {c : Addr}
    (D : DfC K mg x st ps c) (S : FnScope N ps (defScope st)) (hGd : ∀ A env, G A → G (A.deeper env)) (len : ∀ as Q Z, Fd.run as Q Z → as.length = ps.length)
    (hbody : ∀ (f : Addr) (cdv : Value), cdv = .ref c → ∀ (A : Around) (outer : List Env) (s : Shared) (H : Hp) (E : XK) (C : Ct) (px : XP), Room k (A.deeper (envOfC x (defScope st) s.heap.objs.size f cdv)) → G (A.deeper (envOfC x (defScope st) s.heap.objs.size f cdv)) → C.q.w = wd →
      XO (cxOf (L2.CX P w) P w K mg base N x (defScope st) f cdv A outer s H E) C px (L2.CX P w) E →
      ∀ as Q, Fd.run as Q px → ∃ t, PSDs (cxOf (L2.CX P w) P w K mg base N x (defScope st) f cdv A outer s H E) C (defBody st) t ∧ t { nx := fun _ => Q .none, rt := Q } (startD N as)) :
    Cal G P w K mg base (k + 1) x ps wd Fd := by
  obtain ⟨f, fd, F, hm, hb, hc⟩ := D.ex
  exact ⟨f, fd, fnr_mk F S hGd len (fun cdv e => hbody f cdv (e.symm.trans hc)), hm, F.kp, hb⟩
/-- what is known of told -/
structure ToldF (K : PySem.W.Frag) (mg : Str → Option Value) (x a en ecl : Str) (st : Stmt) (CF : Addr) (f : Str) : Prop where
  ex : ∃ (g : Addr) (oc : Value) (od : Option Addr) (kV doc pm : Value) (an : Option Addr) (cdv ct : Value) (osl : Array (Option Value)), mg x = some (.ref g) ∧ PySem.W.keepIn K (.ref g) = true ∧
    K.lookup g = some ⟨oc, od, .func (PySem.W.fnOf x x (defArgs st) (defBody st) (defScope st) .none kV doc pm an cdv ct), osl⟩ ∧ PySem.W.codeIn K cdv x = true ∧ L2.Binds K (PySem.W.fnOf x x (defArgs st) (defBody st) (defScope st) .none kV doc pm an cdv ct) [a] []
  xf : XfC K CF
  no : PySem.W.findIn K (.ref CF) f = some none
  xm : PySem.W.exmOne K (.ref CF) (.ref CF) = some true
  mgE : mg ecl = some (.ref CF)
  sc : FnScope [a, en] [a] (defScope st)
/-- what is known of a def that makes lambdas: its code object, its table -/
structure LamF (mg : Str → Option Value) (base : Heap) (w : Wd) (qual : Str) (cdv : Value) (c P : Addr) : Prop where
  tb : LamX.TabB base mg c P
  code : cdv = .ref c
  mem : (P, qual ++ "<lambda>") ∈ w.T
  uni : ∀ p ∈ w.T, p.1 = P → p.2 = qual ++ "<lambda>"
theorem lam_env {X : Cx} {A : Around} {outer : List Env} {s : Shared} {H : Hp} {E : XK} {scope : Scope} {f c : Addr} {x : Str} (h : scope.names.lookup x = some .globalImplicit) : Gl (LamX.lamCx X A outer s H E scope f c) x := h
/-! readings that are monotone, without a derivation -/
theorem mo_val (i : Nat) : MonoE (tValD i) := fun ρ P P' k h => by
  unfold tValD at h ⊢
  split at h
  · exact k _ h
  · exact h
theorem mo_c (d : D) : MonoE (tCD d) := fun ρ P P' k h => k _ h
theorem mo_bi {g : D → D → (D → Prop) → Prop} {ta tb : TED} (mg : Mo2 g) (ha : MonoE ta) (hb : MonoE tb) : MonoE (dBi g ta tb) := fun ρ P P' k => ha _ _ _ fun d => hb _ _ _ fun d' => mg _ _ _ _ k
theorem mo_test {t : TED} (h : MonoE t) : MonoT (tTestD t) := fun ρ P P' k => h _ _ _ fun d => mono_isB k
def MonoA (t : TAD) : Prop := ∀ ρ (P P' : List Arg → Prop), (∀ d, P d → P' d) → t ρ P → t ρ P'
theorem mo_anil : MonoA aNil := fun _ _ _ k h => k _ h
theorem mo_acons {te : TED} {ta : TAD} (h : MonoE te) (ha : MonoA ta) : MonoA (aCons te ta) := fun ρ P P' k => h _ _ _ fun d => ha _ _ _ fun as => k _
def MonoL (t : TLD) : Prop := ∀ ρ (P P' : List D → Prop), (∀ d, P d → P' d) → t ρ P → t ρ P'
theorem mo_lnil : MonoL lNil := fun _ _ _ k h => k _ h
theorem mo_lcons {te : TED} {ta : TLD} (h : MonoE te) (ha : MonoL ta) : MonoL (lCons te ta) := fun ρ P P' k => h _ _ _ fun d => ha _ _ _ fun as => k _
theorem mo_call {Fd : FD} {px : XP} {t : TAD} (h : MonoA t) : MonoE (tCallD Fd px t) := fun ρ P P' k => h _ _ _ fun as => Fd.mono _ _ _ _ _ k fun _ _ _ z => z
theorem mo_callK {Fd : FD} {px : XP} {is : List Nat} {t : TLD} (h : MonoL t) : MonoE (tCallK Fd px is t) := fun ρ P P' k => h _ _ _ fun as => Fd.mono _ _ _ _ _ k fun _ _ _ z => z
theorem mo_if {t : TTD} {ta tb : TED} (ht : MonoT t) (ha : MonoE ta) (hb : MonoE tb) : MonoE (tIfD t ta tb) := fun ρ P P' k => ht _ _ _ fun c h => mono_ite h (ha _ _ _ k) (hb _ _ _ k)
end DL

namespace DL
open PySem PySem.Spec PyProof.Rows L2
/-! ### several values at once, where some names are cells -/
theorem names_put (is : List Nat) : ∀ (vs : List V) (σ : L2.St) (H : Hp) (Q : L2.St → Hp → Prop), vs.length = is.length → Q (putV σ is vs) H → gNames is vs σ H Q := by
  induction is with
  | nil =>
    intro vs σ H Q hl h
    cases vs with
    | nil => exact ⟨rfl, h⟩
    | cons v vs => cases hl
  | cons i is ih =>
    intro vs σ H Q hl h
    cases vs with
    | nil => cases hl
    | cons v vs => exact ⟨v, vs, rfl, ih vs (σ.set i (some v)) H Q (by simpa using hl) h⟩
theorem psd_asgM {X : Cx} {C : Ct} {es : List Expr} {tm : TMD} {tg : Expr} {pos pos' : Pos} {x1} (is : List Nat) (ha : DM X C es tm) (hg : PG X tg (gTgt X.K (.tup is))) (hl : is.length ≤ sizeLine := by decide) (hs : swapsWithSole [tg] (.Tuple es x1 pos') pos.line X.env = pure false := by rfl) (hw : swappedStores [tg] (.Tuple es x1 pos') X.env = pure none := by rfl)
    (h1 : (assignEach [tg] X.env).map (·.2) = [assign tg X.env] := by rfl) : PSD X C (.Assign [tg] (.Tuple es x1 pos') pos) (sPar is tm) :=
  ⟨mono_par ha _, ps_imp (ps_asg (pe_tup ha.run) hg hs hw h1) fun D σ H ⟨F, O, ρ, R, q⟩ => ⟨F, O, ρ, R, ha.mono _ _ _ (fun ss k vs as H1 F1 s1 R1 r1 _ => by
    have hl' := LsR.len ss vs as r1
    rw [k.1] at hl'
    refine ⟨by rw [hl']; exact hl, fun p n => ?_⟩
    refine ⟨p, vs, rfl, SqT.of upd_same, hl', names_put is vs _ _ _ hl' ?_⟩
    obtain ⟨O', R'⟩ := Rel.putS is ss vs as O ρ σ (R1.new (o := .tup vs) n) (LsR.stp R1 (Stp.new n) ss vs as r1) k.1
    exact k.2 F1 O' _ _ (FSt.of R (s1.trans (Stp.new n))) R') q⟩⟩
end DL

namespace DL
open PySem PySem.Spec PyProof.Rows L2

/-! ### several clauses "except x as n", all of one name n -/
abbrev Cls := Value × (Addr → Value → Option Addr → TS)
def wAsM (K : PySem.W.Frag) (i : Nat) (Wo : WX) (D : Ends) : List Cls → WX
  | [] => Wo
  | p :: r => fun cls d σ H => ∃ b, PySem.W.exmOne K cls p.1 = some b ∧ (b = true → ∀ x, H x = none → p.2 x cls d { nx := fun τ G => D.nx (τ.set i none) G, rt := D.rt, bk := fun τ G => D.bk (τ.set i none) G, ct := fun τ G => D.ct (τ.set i none) G } (σ.set i (some (.ref x))) H) ∧ (b = false → wAsM K i Wo D r cls d σ H)
inductive HdsAs (X : Cx) (n : Str) : List ExceptHandler → List Cls → Prop
  | nil : HdsAs X n [] []
  | cons {x : Str} {p : Cls} {b₀ : Stmt} {su : List Stmt} {p1 p2 : Pos} {hds : List ExceptHandler} {l : List Cls} (hc : Names X x p.1)
      (hsu : ∀ (a : Addr) (oe : Obj) (cls : Value) (d : Option Addr) (pn : List (Addr × Obj)), Zc cls d oe → (∃ vs, oe.data = .fields vs) → PSs (X.suite a ((a, oe) :: pn)) (b₀ :: su) (p.2 a cls d)) (r : HdsAs X n hds l) :
      HdsAs X n (.ExceptHandler (some (.Name x p1)) (some n) (b₀ :: su) p2 :: hds) (p :: l)
section
variable {X : Cx} {n : Str} {i : Nat} {body : List Stmt} {h₀ : ExceptHandler} {hds : List ExceptHandler} {l : List Cls} {pos : Pos} {tb : WX → TS} {Wo : WX}
theorem ps_try_asM (hs : X.stack = X.env :: X.outer) (hf : X.env.frame = some X.env.locals) (hN : X.N.Nodup) (hi : X.N[i]? = some n) (hln : X.env.kindOf n = some .local) (tk : Takes X Wo)
    (hb : ∀ (W : WX) (pn : List (Addr × Obj)) (xe : Value → Shared → Prop), Takes (X.tr pn xe) W → PassesOwn (model X.prog X.w) X.A X.env xe → PSs (X.tr pn xe) body (tb W))
    (hh : HdsAs X n (h₀ :: hds) l) : PS X (.Try body (h₀ :: hds) [] [] pos) (fun D σ H => tb (wAsM X.K i Wo D l) D σ H) := by
  refine ⟨fun pins s σ H D I h => ?_⟩
  have okX := I.ok
  have frX : X.A.frames = some (X.env :: X.outer) := okX.frames.trans (congrArg some hs)
  have locN : Loc X.env.scope n := .inl hln
  refine wpAny_Try_except (wpAny_mono ((hb (wAsM X.K i Wo D l) (X.pn ++ pins) (fun er s1 => wpAny (model X.prog X.w) X.A (noteFrame er X.env) (fun _ s2 => wpAny (model X.prog X.w) X.A (setFlight er none) (fun _ s3 =>
    wpAny (model X.prog X.w) X.A (handleBy er X.env (h₀ :: hds)) (SP X pins D) X.xe s3) X.xe s2) X.xe s1) (fun er t0 xx => ?_) PassesOwn.looking).run [] s σ H D (I.toTry _) h) (fun fl s1 q1 => ?_) (fun _ _ z => z))
  · obtain ⟨at_, B, sJ, pj, τ, G, cls, d, rfl, J0, n1, n2, n3, n4, n5, n6, w⟩ := xx
    have J : Inv X pins τ G sJ := J0.ofTry okX
    have skyX : Sky B (X.env :: X.outer) at_ (Zc cls d) X.env.locals t0.heap := hs ▸ n3
    show wpAny (model X.prog X.w) X.A (noteFrame (.ref at_) X.env) _ _ _
    refine Sky.land Zc.steady frX hf skyX fun g3 f3 u3 => ?_
    have J3 : Inv X pins τ G { t0 with heap := g3 } := J.landed n1 f3.1 (n2.trans u3) n5 n6
    obtain ⟨ob3, fs3, e3, z3, d3⟩ := f3.there
    have nfr : at_ ∉ frs (X.env :: X.outer) := fun hm => by
      obtain ⟨_, ob, eb, hne⟩ := f3.2.2.1.mem hm
      exact absurd d3 (by rw [e3] at eb; cases eb; exact hne _)
    have nL : at_ ≠ X.env.locals := fun z => nfr (List.mem_filterMap.mpr ⟨X.env, List.mem_cons_self, by rw [hf, ← z]⟩)
    have nF : at_ ∉ X.fs := fun hm => (let ⟨v, hv, q⟩ := List.mem_filterMap.mp hm; nfr (List.mem_filterMap.mpr ⟨v, List.mem_cons_of_mem _ hv, q⟩))
    have S3 := J3.suite e3 d3 n4 nL nF
    have go : ∀ {hs' : List ExceptHandler} {l' : List Cls}, HdsAs X n hs' l' → wAsM X.K i Wo D l' cls d τ G → wpAny (model X.prog X.w) X.A (handleBy (.ref at_) X.env hs') (SP X pins D) X.xe { t0 with heap := g3 } := by
      intro hs' l' hk
      induction hk with
      | nil =>
        intro w
        refine wpAny_handleBy_nil ?_
        obtain ⟨_, _, _, ox, fx, T, oT, tx, ex, zx, dx, hx1, _⟩ := id f3
        unfold PySem.passOn
        refine wpAny_bind (wpAny_field ex dx hx1 ?_)
        rw [if_neg (show ¬ ((Value.ref T == Value.none) = true) by simp)]
        have fin : wpAny (model X.prog X.w) X.A (setFlight (.ref at_) X.env.frame) (fun _ s4 => wpAny (model X.prog X.w) X.A (throw (.ref at_) : Sem Flow) (SP X pins D) X.xe s4) X.xe { t0 with heap := g3 } :=
          hf.symm ▸ HandSPX.setFlight_upZ f3 fun g4 k4 u4 => wpAny_throw (tk _ _ ⟨at_, B, sJ, pins, τ, G, cls, d, rfl, J, n1, (n2.trans u3).trans u4, .inr (.inr (by rw [hs]; exact k4)), n4, n5, n6, w⟩)
        first | exact wpAny_bind (wpAny_pure (wpAny_bind fin)) | exact wpAny_bind fin
      | @cons x p b₀ su p1 p2 hds2 l2 hc hsu r ih =>
        intro w
        obtain ⟨b, eb, yes, no⟩ := w
        refine wpAny_handleBy_cons (codeAny_handlers_test ?_) (by intro z; cases z)
        have ty : PySem.W.Looks (model X.prog X.w) g3 (typeOf (.ref at_)) cls := fun A Q E s k z => wpAny_typeOf_ref (k _ _ e3) (by rw [z3.1]; exact z)
        have nam : ∀ {Q : Value → Shared → Prop} {E : Value → Shared → Prop}, Q p.1 { t0 with heap := g3 } → wpAny (model X.prog X.w) (X.A.mark (some (.ref at_))) (eval (.Name x p1) X.env) Q E { t0 with heap := g3 } := fun {Q E} z => by
          obtain ⟨c1, c2, c3 | ⟨c3, c4, c5⟩⟩ := hc
          · exact ld_glob (X := X.suite at_ ((at_, ob3) :: (X.pn ++ pins))) S3 c1 c3 z c2
          · exact ld_blt (X := X.suite at_ ((at_, ob3) :: (X.pn ++ pins))) S3 c1 c3 c4 z c5 c2
        refine nam ((PySem.W.exm_one (M := model X.prog X.w) J3.kIn ty eb).here ?_)
        cases b with
        | true =>
          refine codeAny_handlers_suite_as (HandSPX.lands_againZ f3 fun g4 f4 u4 => ?_)
          have J4 : Inv X pins τ G { t0 with heap := g4 } := J.landed n1 f4.1 ((n2.trans u3).trans u4) n5 n6
          obtain ⟨ob4, fs4, e4, z4, d4⟩ := f4.there
          refine store_ok (X := X.suite at_ ((at_, ob4) :: (X.pn ++ pins))) (v := .ref at_) (J4.suite e4 d4 n4 nL nF) hN hi locN rfl (fun s5 S5 => ?_) (.inr hln)
          refine wpAny_mono ((hsu at_ ob4 cls d (X.pn ++ pins) z4 ⟨_, d4⟩).run [] s5 _ G _ S5 (yes rfl at_ n4)) (fun fl s6 q6 => ?_) (fun _ _ z => z.elim)
          have out : ∀ {τ6 : L2.St} {G6 : Hp} {Q : Shared → Prop}, Inv (X.suite at_ ((at_, ob4) :: (X.pn ++ pins))) [] τ6 G6 s6 → (∀ s7, Inv X pins (τ6.set i none) G6 s7 → Q s7) →
              wpAny (model X.prog X.w) X.A (do bindName X.env n .none; unbindBehindTheSuite X.env n p2) (fun _ s7 => Q s7) X.xe s6 := fun {τ6 G6 Q} S6 hq => gone_ok (S6.unsuite okX) hN hi hln hq
          match fl, q6 with
          | .next, ⟨_, _, S6, q⟩ => exact out S6 fun _ J7 => ⟨_, _, J7, q⟩
          | .brk, ⟨_, _, S6, q⟩ => exact out S6 fun _ J7 => ⟨_, _, J7, q⟩
          | .cont, ⟨_, _, S6, q⟩ => exact out S6 fun _ J7 => ⟨_, _, J7, q⟩
          | .ret _, ⟨_, _, _, S6, r6, q⟩ => exact out S6 fun _ J7 => ⟨_, _, _, J7, r6, q⟩
        | false => exact ih (no rfl)
    exact go hh w
  · match fl, q1 with
    | .next, ⟨τ, G, J, q⟩ => exact wpAny_execs_nil ⟨τ, G, J.ofTry okX, q⟩
    | .brk, ⟨τ, G, J, q⟩ => exact ⟨τ, G, J.ofTry okX, q⟩
    | .cont, ⟨τ, G, J, q⟩ => exact ⟨τ, G, J.ofTry okX, q⟩
    | .ret _, ⟨v, τ, G, J, r, q⟩ => exact ⟨v, τ, G, J.ofTry okX, r, q⟩
end
end DL

namespace DL
open PySem PySem.Spec PyProof.Rows L2

/-! ### told with several clauses: each returns (s, e.f) -/
abbrev Cl := Addr × Str × Str
def wTold (K : PySem.W.Frag) (Q : VK) : List Cl → XK
  | [] => fun _ _ _ => False
  | p :: r => fun cls d H' => ∃ b, PySem.W.exmOne K cls (.ref p.1) = some b ∧ (b = true → cls = .ref p.1 ∧ ∃ dd fs v, d = some dd ∧ H' dd = some (.xd fs) ∧ fs.lookup p.2.1 = some v ∧ ∀ a, H' a = none → Q (.ref a) (upd H' a (.tup [.str p.2.2, v]))) ∧ (b = false → wTold K Q r cls d H')
def TTm (K : PySem.W.Frag) (L : List Cl) (s0 : Str) : (XK → Hp → VK → Prop) → Hp → VK → Prop := fun tl H Q =>
  tl (wTold K Q L) H (fun v H1 => ([.str s0, v] : List V).length ≤ sizeLine ∧ ∀ p, H1 p = none → Q (.ref p) (upd H1 p (.tup [.str s0, v])))
/-- the clauses as they are written -/
inductive ThL (X : Cx) (sg : Scope) (en : Str) : List ExceptHandler → List Cl → Prop
  | nil : ThL X sg en [] []
  | cons {e : Str} {p : Cl} {j k : Nat} {p1 p2 p3 p4 p5 p6 p7 : Pos} {hds : List ExceptHandler} {l : List Cl} (hge : sg.names.lookup e = some .globalImplicit) (hme : X.mg e = some (.ref p.1)) (hde : (e == ("__debug__" : Str)) = false)
      (T : XfC X.K p.1) (hno : PySem.W.findIn X.K (.ref p.1) p.2.1 = some none)
      (hsF : ∀ env : Env, starEach [.Constant (.str p.2.2) j p4, .Attribute (.Name en p5) p.2.1 p6] env = (false, eval (.Constant (.str p.2.2) j p4) env) :: starEach [.Attribute (.Name en p5) p.2.1 p6] env) (hsF2 : ∀ env : Env, starEach [.Attribute (.Name en p5) p.2.1 p6] env = (false, eval (.Attribute (.Name en p5) p.2.1 p6) env) :: starEach [] env)
      (hb : ∀ (env : Env), attributeBase (.Name en p5) p.2.1 env (eval (.Name en p5) env) = eval (.Name en p5) env) (r : ThL X sg en hds l) :
      ThL X sg en (.ExceptHandler (some (.Name e p1)) (some en) [.Return (some (.Tuple [.Constant (.str p.2.2) j p4, .Attribute (.Name en p5) p.2.1 p6] k p3)) p2] p7 :: hds) (p :: l)
section
variable {X : Cx}
theorem hds_of {Ng : List Str} {x en : Str} {sg : Scope} {g : Addr} {cdg : Value} {s : Shared} {H : Hp} (hN1 : Ng[1]? = some en) (hln : sg.names.lookup en = some .local) (hd1 : (en == ("__debug__" : Str)) = false) (hc1 : (en == ("__classdict__" : Str)) = false) {hds : List ExceptHandler} {L : List Cl} (h : ThL X sg en hds L) :
    ∃ l, HdsAs (cxOf C8.CX0 X.prog X.w X.K X.mg X.base Ng x sg g cdg X.A X.stack s H C8.E0).nox en hds l ∧ ∀ (D : Ends) (cls : Value) (d : Option Addr) (τ : L2.St) (G : Hp), τ.length = Ng.length → wTold X.K D.rt L cls d G → wAsM X.K 1 (fun _ _ _ _ => False) D l cls d τ G := by
  induction h with
  | nil => exact ⟨[], .nil, fun D cls d τ G _ w => w⟩
  | @cons e p j k p1 p2 p3 p4 p5 p6 p7 hds l hge hme hde T hno hsF hsF2 hb r ih =>
    obtain ⟨l', ih1, ih2⟩ := ih
    have hgl : Gl (cxOf C8.CX0 X.prog X.w X.K X.mg X.base Ng x sg g cdg X.A X.stack s H C8.E0).nox e := hge
    refine ⟨_, HdsAs.cons (X := (cxOf C8.CX0 X.prog X.w X.K X.mg X.base Ng x sg g cdg X.A X.stack s H C8.E0).nox) (p := (.ref p.1, _)) ⟨hgl, hde, .inl hme⟩ (fun a oe cls d pn hz hf => pss_one (ps_ret (pe_tup (pa_cons pe_str (pa_cons (pe_xf (X := (cxOf C8.CX0 X.prog X.w X.K X.mg X.base Ng x sg g cdg X.A X.stack s H C8.E0).nox.suite a ((a, oe) :: pn)) T hno hz hf (pe_var (X := (cxOf C8.CX0 X.prog X.w X.K X.mg X.base Ng x sg g cdg X.A X.stack s H C8.E0).nox.suite a ((a, oe) :: pn)) (i := 1) hN1 (.inl hln) hd1 hc1) (hb _)) pa_nil (hsF2 _)) (hsF _))))) ih1, fun D cls d τ G hl w => ?_⟩
    obtain ⟨b, e1, e2, e3⟩ := w
    refine ⟨b, e1, fun hbt a _ => ?_, fun hbf => ih2 D cls d τ G hl (e3 hbf)⟩
    obtain ⟨rfl, dd, fs, v, ed, ea, lk, q⟩ := e2 hbt
    refine ⟨.ref a, ?_, rfl, rfl, dd, fs, v, ed, ea, lk, (by show 2 ≤ sizeLine; decide), q⟩
    have h2 : 1 < Ng.length := (List.getElem?_eq_some_iff.mp hN1).1
    exact List.getElem?_set_self (by rw [hl]; exact h2)
theorem told_asM {Ng : List Str} {x a en q s0 : Str} {sg : Scope} {g : Addr} {cdg : Value} {j1 k1 : Nat} {p1 p2 p3 p8 p9 p13 : Pos} {h₀ : ExceptHandler} {hds : List ExceptHandler} {L : List Cl}
    (h0 : ∀ f : Addr, (L2.start Ng [V.ref f])[0]? = some (some (V.ref f))) (hNd : Ng.Nodup) (hN1 : Ng[1]? = some en) (hln : sg.names.lookup en = some .local) (hd1 : (en == ("__debug__" : Str)) = false) (hc1 : (en == ("__classdict__" : Str)) = false)
    (hsE : ∀ env : Env, starEach [.Constant (.str s0) j1 p9, .Call (.Name a p1) [] [] p2] env = (false, eval (.Constant (.str s0) j1 p9) env) :: starEach [.Call (.Name a p1) [] [] p2] env) (hsE2 : ∀ env : Env, starEach [.Call (.Name a p1) [] [] p2] env = (false, eval (.Call (.Name a p1) [] [] p2) env) :: starEach [] env)
    (hh : ThL X sg en (h₀ :: hds) L) :
    LamX.GivesTo X Ng x sg g cdg [.Try [.Return (some (.Tuple [.Constant (.str s0) j1 p9, .Call (.Name a p1) [] [] p2] k1 p13)) p3] (h₀ :: hds) [] [] p8] a q (TTm X.K L s0) := by
  intro fa c' s H Q tl act hc h
  obtain ⟨l, hl1, hl2⟩ := hds_of (X := X) (Ng := Ng) (x := x) (g := g) (cdg := cdg) (s := s) (H := H) hN1 hln hd1 hc1 hh
  refine ⟨_, pss_one (ps_try_asM (X := (cxOf C8.CX0 X.prog X.w X.K X.mg X.base Ng x sg g cdg X.A X.stack s H C8.E0).nox) (i := 1) (n := en)
      (tb := fun W D σ H => ∃ Ech : XK, (∀ cls d σ' H', σ'.length = Ng.length → Ech cls d H' → W cls d σ' H') ∧ σ[0]? = some (some (.ref fa)) ∧ H c' = some (LamX.CodeO c' q) ∧ tl Ech H (fun v H1 => ([.str s0, v] : List V).length ≤ sizeLine ∧ ∀ p, H1 p = none → D.rt (.ref p) (upd H1 p (.tup [.str s0, v]))))
      rfl rfl hNd hN1 hln LamX.takes0 (fun W pn xe tk _ => ?_) hl1), ?_⟩
  · refine ⟨fun pins s' σ H' D I h' => ?_⟩
    obtain ⟨Ech, hW, h1, h2, h3⟩ := h'
    have hp := act _ pn xe Ech p1 p2 (takes_len tk) fun cls d σ' H' he hl => hW cls d σ' H' hl he
    exact (pss_one (ps_ret (pos := p3) (pe_tup (x1 := k1) (pos := p13) (pa_cons (pe_str (x := s0) (j := j1) (pos := p9)) (pa_cons hp pa_nil (hsE2 _)) (hsE _))))).run pins s' σ H' D I ⟨h1, h2, h3⟩
  · exact ⟨wTold X.K Q L, fun cls d σ' H' hlen w => hl2 _ cls d σ' H' hlen w, h0 fa, hc, h⟩
end
/-! in data -/
def tToldM (tb : XP → TED) (L : List Cl) (s0 : Str) : TED := fun ρ P => tb (fun c nm d => ∃ s1, (c, nm, s1) ∈ L ∧ P (.tuple [.str s1, d])) (ρ.map unown) fun d => P (.tuple [.str s0, d])
theorem wTold_of {K : PySem.W.Frag} {Q : VK} {c dx : Addr} {nm s1 : Str} {v : V} {H' : Hp} (he : H' dx = some (.xd [(nm, v)])) (hq : ∀ a, H' a = none → Q (.ref a) (upd H' a (.tup [.str s1, v]))) :
    ∀ (L : List Cl), (∀ p ∈ L, PySem.W.exmOne K (.ref c) (.ref p.1) = some (decide (c = p.1))) → (L.map (·.1)).Nodup → (c, nm, s1) ∈ L → wTold K Q L (.ref c) (some dx) H' := by
  intro L
  induction L with
  | nil => intro _ _ h; cases h
  | cons p r ih =>
    intro hx nd hm
    refine ⟨_, hx p List.mem_cons_self, fun hb => ?_, fun hb => ?_⟩
    · have e : c = p.1 := of_decide_eq_true hb
      have ep : p = (c, nm, s1) := by
        rcases List.mem_cons.mp hm with z | z
        · exact z.symm
        · exact absurd (List.mem_map.mpr ⟨_, z, rfl⟩ : c ∈ r.map (·.1)) (by rw [e]; exact (List.nodup_cons.mp nd).1)
      subst ep
      exact ⟨rfl, dx, _, v, rfl, he, by simp [List.lookup], hq⟩
    · refine ih (fun q hq => hx q (List.mem_cons_of_mem _ hq)) (List.nodup_cons.mp nd).2 ?_
      rcases List.mem_cons.mp hm with z | z
      · exact absurd (by rw [← z] : c = p.1) (of_decide_eq_false hb)
      · exact z
section
variable {X : Cx} {C : Ct}
theorem pd_toldM {x a s0 : Str} {g c P : Addr} {k : Nat} {L : List Cl} {pg : Arguments} {bg : List Stmt} {sg : Scope} {dV kV doc pm cdv ct oc : Value} {an od : Option Addr} {osl : Array (Option Value)} {Ng : List Str}
    {params : Arguments} {body : Expr} {scope : Scope} {tb : XP → TED} {p lpos pos : Pos} (hg : Gl X x) (hm : X.mg x = some (.ref g)) (hk : PySem.W.keepIn X.K (.ref g) = true)
    (lk : X.K.lookup g = some ⟨oc, od, .func (PySem.W.fnOf x x pg bg sg dV kV doc pm an cdv ct), osl⟩) (hcg : PySem.W.codeIn X.K cdv x = true) (hb : L2.Binds X.K (PySem.W.fnOf x x pg bg sg dV kV doc pm an cdv ct) [a] []) (Sg : FnScope Ng [a] sg) (hNg : Ng[0]? = some a) (hva : Vis sg a)
    (hG : LamX.GivesTo X Ng x sg g cdv bg a (X.env.qual ++ "<lambda>") (TTm X.K L s0)) (hxm : ∀ p ∈ L, ∀ q ∈ L, PySem.W.exmOne X.K (.ref p.1) (.ref q.1) = some (decide (p.1 = q.1))) (hnd : (L.map (·.1)).Nodup)
    (TB : LamX.TabB X.base X.mg c P) (hcode : X.env.code = .ref c) (hmT : (P, X.env.qual ++ "<lambda>") ∈ C.q.w.T) (hu : ∀ p ∈ C.q.w.T, p.1 = P → p.2 = X.env.qual ++ "<lambda>") (hr : Room (k + 2) X.A) (LS : LamX.LamS X.env.scope scope) (hdef : defaultsOf params X.env = ([], []))
    (hbind : ∀ (q : Str) (cl : List (Str × Addr)) (pm cv ctv : Value), bindArgs (PySem.W.kla_fn "<lambda>" q params body scope cl pm cv ctv) ⟨[], []⟩ = pure [])
    (hbody : ∀ (A : Around) (outer : List Env) (s : Shared) (H : Hp) (E : XK) (f c' : Addr) (C' : Ct) (px : XP), C'.q = C.q → Room k (A.deeper (LamX.lamEnv X scope s.heap.objs.size f c')) → XO (LamX.lamCx X A outer s H E scope f c') C' px (L2.CX X.prog X.w) E →
      PD (LamX.lamCx X A outer s H E scope f c') C' body (tb px))
    (hxmo : XM tb) (hmo : ∀ px, MonoE (tb px))
    (hdb : (x == ("__debug__" : Str)) = false := by decide) (hd : (a == ("__debug__" : Str)) = false := by decide) (hcd : (a == ("__classdict__" : Str)) = false := by decide) :
    PD X C (.Call (.Name x p) [.Lambda params body scope lpos] [] pos) (tToldM tb L s0) := by
  refine ⟨fun ρ P P' k h => hxmo _ _ (fun c n d ⟨s1, h1, h2⟩ => ⟨s1, h1, k _ h2⟩) _ _ (hmo _ _ _ _ (fun d h => k _ h) h), pe_imp (LamX.pe_lamcall (T := C.q.w.T) (TT := TTm X.K L s0)
    (t := fun E σ H Q => ∃ C' px, C'.q = C.q ∧ (∀ c nm d, px c nm d → ∀ dx v F O ρ σ H, Rel X.K C' F O ρ σ H → H dx = some (.xd [(nm, v)]) → Rdd X.K F H d v → E (.ref c) (some dx) H) ∧ lift (rE X.K) X.K C' (tb px) σ H Q)
    hg hm hk lk hcg hb Sg hNg hva hG TB hcode hmT hu hr LS hdef hbind (fun A outer s H E f c' hr2 => ⟨fun pins s1 σ1 H1 Q I ⟨C', px, e, hx, h⟩ => (hbody A outer s H E f c' C' px e hr2
      ⟨fun pins σ H1 s1 e s' I c => passes_call (L2.takes_of rfl rfl rfl rfl) (fun _ _ _ _ h => h) pins σ H1 s1 e s' I c, hx⟩).run.run pins s1 σ1 H1 Q I h⟩) hdb hd hcd) fun σ H Q ⟨F, O, ρ, R, q⟩ => ⟨R.tb, fun H1 eN T1 => ?_⟩⟩
  have R1 := rel_ext R eN T1
  have S1 := stp_ext R eN
  refine ⟨⟨C.q, H1, F⟩, fun c nm d => ∃ s1, (c, nm, s1) ∈ L ∧ (∀ v H' F', Stp C.q F F' H H' → Rel X.K C F' O ρ σ H' → rE X.K F' O H H' (.tuple [.str s1, d]) v → Q v H'), rfl, ?_, F, fun _ => [], ρ.map unown, rel_anew R1, hmo _ _ _ _ (fun d h v H2 F2 s2 R2 r2 => ?_) q⟩
  · rintro c nm d ⟨s1, hm, hq⟩ dx v F2 O2 ρ2 σ2 H2 R2 e r
    obtain ⟨s2, R2'⟩ := rel_back R1 R2
    refine wTold_of (s1 := s1) e (fun p hp => ?_) L (fun q hq => hxm _ hm q hq) hnd hm
    obtain ⟨s3, R3, r3⟩ := new_tup (ds := [.str s1, d]) (vs := [.str s1, v]) R2' ⟨_, _, rfl, rfl, _, _, rfl, r, rfl⟩ hp
    exact hq _ _ _ ((S1.trans s2).trans s3) R3 r3
  · refine ⟨by show 2 ≤ sizeLine; decide, fun p hp => ?_⟩
    obtain ⟨s2', R2'⟩ := rel_back R1 R2
    obtain ⟨s3, R3, r3⟩ := new_tup (ds := [.str s0, d]) (vs := [.str s0, v]) R2' ⟨_, _, rfl, rfl, _, _, rfl, r2, rfl⟩ hp
    exact h _ _ _ ((S1.trans s2').trans s3) R3 r3
end
/-- what is known of told with several clauses -/
structure ToldMF (K : PySem.W.Frag) (mg : Str → Option Value) (x a en : Str) (st : Stmt) (L : List Cl) : Prop where
  ex : ∃ (g : Addr) (oc : Value) (od : Option Addr) (kV doc pm : Value) (an : Option Addr) (cdv ct : Value) (osl : Array (Option Value)), mg x = some (.ref g) ∧ PySem.W.keepIn K (.ref g) = true ∧
    K.lookup g = some ⟨oc, od, .func (PySem.W.fnOf x x (defArgs st) (defBody st) (defScope st) .none kV doc pm an cdv ct), osl⟩ ∧ PySem.W.codeIn K cdv x = true ∧ L2.Binds K (PySem.W.fnOf x x (defArgs st) (defBody st) (defScope st) .none kV doc pm an cdv ct) [a] []
  xf : ∀ p ∈ L, XfC K p.1 ∧ PySem.W.findIn K (.ref p.1) p.2.1 = some none
  xm : ∀ p ∈ L, ∀ q ∈ L, PySem.W.exmOne K (.ref p.1) (.ref q.1) = some (decide (p.1 = q.1))
  nd : (L.map (·.1)).Nodup
  sc : FnScope [a, en] [a] (defScope st)
end DL

namespace DL
open PySem PySem.Spec PyProof.Rows L2

/-! ### all, any, sum -/
def gAll : D → (D → Prop) → Prop
  | .list ds, P => ∃ bs : List Bool, ds = bs.map .bool ∧ P (.bool (bs.all id))
  | _, _ => False
def gAny : D → (D → Prop) → Prop
  | .list ds, P => ∃ bs : List Bool, ds = bs.map .bool ∧ P (.bool (bs.any id))
  | _, _ => False
def gSum : D → (D → Prop) → Prop
  | .list ds, P => ∃ ns : List Int, ds = ns.map .int ∧ P (.int ns.sum)
  | _, _ => False
theorem mo_gAll : Mo1 gAll := fun x P P' k h => by cases x <;> first | exact h.elim | exact ⟨h.choose, h.choose_spec.1, k _ h.choose_spec.2⟩
theorem mo_gAny : Mo1 gAny := fun x P P' k h => by cases x <;> first | exact h.elim | exact ⟨h.choose, h.choose_spec.1, k _ h.choose_spec.2⟩
theorem mo_gSum : Mo1 gSum := fun x P P' k h => by cases x <;> first | exact h.elim | exact ⟨h.choose, h.choose_spec.1, k _ h.choose_spec.2⟩
theorem RdL.bools_inv {K : PySem.W.Frag} {S : Addr → Prop} {H : Hp} : ∀ {bs : List Bool} {vs : List V}, RdL K S H (bs.map .bool) vs → vs = bs.map V.bl
  | [], _, h => h
  | b :: bs, _, ⟨v, r, e, h1, h2⟩ => by rw [e, show v = V.bl b from h1, RdL.bools_inv (bs := bs) h2]; rfl
section
variable {X : Cx} {C : Ct} {a b c e : Expr} {ta tb tc te : TED} {p pos : Pos}
theorem pd_all (hg : Gl X "all") (hm : X.mg "all" = none) (he : PO X C e te) (hc : X.calm = true := by rfl) (hs : starEach [e] X.env = (false, eval e X.env) :: starEach [] X.env := by rfl) : PD X C (.Call (.Name "all" p) [e] [] pos) (dUn gAll te) :=
  pv_b1 (cr_all hc) (fun {F O ρ σ H x v Q} R rx h => by
    cases x <;> first | exact h.elim | skip
    obtain ⟨bs, rfl, q⟩ := h
    obtain ⟨l, vs, rfl, _, t, r⟩ := rx
    rw [r.bools_inv] at t
    exact ⟨l, bs, rfl, SqL.of t, q _ _ _ (Stp.refl _ _ _) R rfl⟩) mo_gAll hg hm (by decide +kernel) he (hs := hs)
theorem pd_any (hg : Gl X "any") (hm : X.mg "any" = none) (he : PO X C e te) (hc : X.calm = true := by rfl) (hs : starEach [e] X.env = (false, eval e X.env) :: starEach [] X.env := by rfl) : PD X C (.Call (.Name "any" p) [e] [] pos) (dUn gAny te) :=
  pv_b1 (cr_any hc) (fun {F O ρ σ H x v Q} R rx h => by
    cases x <;> first | exact h.elim | skip
    obtain ⟨bs, rfl, q⟩ := h
    obtain ⟨l, vs, rfl, _, t, r⟩ := rx
    rw [r.bools_inv] at t
    exact ⟨l, bs, rfl, SqL.of t, q _ _ _ (Stp.refl _ _ _) R rfl⟩) mo_gAny hg hm (by decide +kernel) he (hs := hs)
theorem pd_sum (hg : Gl X "sum") (hm : X.mg "sum" = none) (he : PO X C e te) (hc : X.calm = true := by rfl) (hs : starEach [e] X.env = (false, eval e X.env) :: starEach [] X.env := by rfl) : PD X C (.Call (.Name "sum" p) [e] [] pos) (dUn gSum te) :=
  pv_b1 (cr_sum hc) (fun {F O ρ σ H x v Q} R rx h => by
    cases x <;> first | exact h.elim | skip
    obtain ⟨ns, rfl, q⟩ := h
    obtain ⟨l, vs, rfl, _, t, r⟩ := rx
    rw [r.ints_inv] at t
    exact ⟨l, ns, rfl, SqL.of t, q _ _ _ (Stp.refl _ _ _) R rfl⟩) mo_gSum hg hm (by decide +kernel) he (hs := hs)
/-! sorted(xs) of ints: some rising order of them -/
def gSorted : D → (D → Prop) → Prop
  | .list ds, P => ∃ ns : List Int, ds = ns.map .int ∧ ∀ ns' : List Int, ns'.Perm ns → ns'.Pairwise (· ≤ ·) → P (.list (ns'.map .int))
  | _, _ => False
theorem mo_gSorted : Mo1 gSorted := fun x P P' k h => by cases x <;> first | exact h.elim | exact ⟨h.choose, h.choose_spec.1, fun n a b => k _ (h.choose_spec.2 n a b)⟩
theorem pf_sorted (hg : Gl X "sorted") (hm : X.mg "sorted" = none) (he : PO X C e te) (hs : starEach [e] X.env = (false, eval e X.env) :: starEach [] X.env := by rfl) : PF X C (.Call (.Name "sorted" p) [e] [] pos) (dUn gSorted te) :=
  pv_b1 cr_sortedI (fun {F O ρ σ H x v Q} R rx h => by
    cases x <;> first | exact h.elim | skip
    obtain ⟨ns, rfl, q⟩ := h
    obtain ⟨l, vs, rfl, _, t, r⟩ := rx
    rw [r.ints_inv] at t
    refine ⟨l, ns, rfl, SqL.of t, fun ns' p h1 h2 n => ?_⟩
    obtain ⟨s, R', r'⟩ := new_lst R (RdL.ints ns') n
    exact q ns' h1 h2 _ _ _ s R' r') mo_gSorted hg hm (by decide +kernel) he (hs := hs)
/-! x in xs, x not in xs: ints -/
def gIn (neg : Bool) : D → D → (D → Prop) → Prop
  | .int i, .list ds, P => ∃ ns : List Int, ds = ns.map .int ∧ P (.bool (if neg then !decide (i ∈ ns) else decide (i ∈ ns)))
  | .int i, .tuple ds, P => ∃ ns : List Int, ds = ns.map .int ∧ P (.bool (if neg then !decide (i ∈ ns) else decide (i ∈ ns)))
  | _, _, _ => False
theorem mo_gIn {neg : Bool} : Mo2 (gIn neg) := fun x y P P' k h => by
  cases x <;> first | exact h.elim | (cases y <;> first | exact h.elim | exact ⟨h.choose, h.choose_spec.1, k _ h.choose_spec.2⟩)
theorem inV_ints (i : Int) : ∀ ns : List Int, inV (.int i) (ns.map V.int) = decide (i ∈ ns)
  | [] => rfl
  | n :: ns => by
    have ih := inV_ints i ns
    unfold inV at ih ⊢
    rw [List.map_cons, List.any_cons, ih]
    show ((n == i) || _) = _
    by_cases e : i = n
    · subst e; simp
    · have e2 : ¬ n = i := fun z => e z.symm
      simp [e, e2]
theorem flat_ints (ns : List Int) : (ns.map V.int).all flatV = true := by
  rw [List.all_eq_true]
  intro x hx
  obtain ⟨n, _, rfl⟩ := List.mem_map.mp hx
  rfl
theorem by_in {neg : Bool} : By2 X C rE (rIn X.K neg) (gIn neg) := fun {F O ρ σ H x y v u Q} R rx ry h => by
  cases x <;> first | exact h.elim | (cases y <;> first | exact h.elim | skip)
  · obtain ⟨ns, rfl, q⟩ := h
    obtain ⟨a, vs, rfl, _, t, r⟩ := ry
    cases rx
    rw [r.ints_inv] at t
    refine ⟨a, ns.map V.int, rfl, .inl (SqL.of t), rfl, flat_ints ns, ?_⟩
    rw [inV_ints]
    exact q _ _ _ (Stp.refl _ _ _) R rfl
  · obtain ⟨ns, rfl, q⟩ := h
    obtain ⟨a, vs, rfl, t, r⟩ := ry
    cases rx
    rw [r.ints_inv] at t
    refine ⟨a, ns.map V.int, rfl, .inr t, rfl, flat_ints ns, ?_⟩
    rw [inV_ints]
    exact q _ _ _ (Stp.refl _ _ _) R rfl
theorem pd_in (ha : PO X C a ta) (hb : PO X C b tb) (hm : behindInMarks .In b = false := by with_unfolding_all rfl) : PD X C (.Compare a [.In] [b] pos) (dBi (gIn false) ta tb) := pv_2 (fun h h' => pe_cmpR op_in_seq h h' hm) by_in mo_gIn ha hb
theorem pd_nin (ha : PO X C a ta) (hb : PO X C b tb) (hm : behindInMarks .NotIn b = false := by with_unfolding_all rfl) : PD X C (.Compare a [.NotIn] [b] pos) (dBi (gIn true) ta tb) := pv_2 (fun h h' => pe_cmpR op_notIn_seq h h' hm) by_in mo_gIn ha hb
theorem dt_in (ha : PO X C a ta) (hb : PO X C b tb) (hm : behindInMarks .In b = false := by with_unfolding_all rfl) : DT X C (.Compare a [.In] [b] pos) (tTestD (dBi (gIn false) ta tb)) := dt_2 (fun h h' => pt_cmpR op_in_seq h h' hm) by_in mo_gIn ha hb
theorem dt_nin (ha : PO X C a ta) (hb : PO X C b tb) (hm : behindInMarks .NotIn b = false := by with_unfolding_all rfl) : DT X C (.Compare a [.NotIn] [b] pos) (tTestD (dBi (gIn true) ta tb)) := dt_2 (fun h h' => pt_cmpR op_notIn_seq h h' hm) by_in mo_gIn ha hb
/-! a < b < c of ints -/
def dChain (g g' : D → D → (D → Prop) → Prop) (ta tb tc : TED) : TED := fun ρ P => ta ρ fun x => tb ρ fun y => g x y fun z => isB z fun k => if k = true then tc ρ fun w => g' y w P else P (.bool false)
theorem dch_imp {K : PySem.W.Frag} {r r' : R2} {g g' : D → D → (D → Prop) → Prop} (hK : X.K = K) (h : By2 X C rE r g) (h' : By2 X C rE r' g') (mg : Mo2 g) (mg' : Mo2 g') (ha : PO X C a ta) (hb : PO X C b tb) (hc : PO X C c tc) :
    MonoE (dChain g g' ta tb tc) ∧ ∀ σ H Q, lift (rE X.K) X.K C (dChain g g' ta tb tc) σ H Q → tChain r r' (lift (rO X.K) X.K C ta) (lift (rO X.K) X.K C tb) (lift (rO X.K) X.K C tc) σ H Q := by
  refine ⟨fun ρ P P' k => ha.mono _ _ _ fun x => hb.mono _ _ _ fun y => mg _ _ _ _ fun z => mono_isB fun b h => mono_ite h (hc.mono _ _ _ fun w => mg' _ _ _ _ k) (k _), fun σ H Q ⟨F, O, ρ, R, q⟩ => ?_⟩
  refine ⟨F, O, ρ, R, ha.mono _ _ _ (fun x k v H1 F1 s1 R1 r1 => ⟨F1, O, ρ, R1, hb.mono _ _ _ (fun y k2 u H2 F2 s2 R2 r2 => ?_) k⟩) q⟩
  refine h R2 (rO_stp R1 s2 r1) r2 (mg _ _ _ _ (fun z kz vz H3 F3 s3 R3 r3 => ?_) k2)
  obtain ⟨b, e, hb⟩ := rdd_isB r3 kz
  refine ⟨b, e, mono_ite hb (fun k3 => ?_) fun k3 => k3 _ H3 F3 ((s1.trans s2).trans s3) R3 rfl⟩
  refine ⟨F3, O, ρ, R3, hc.mono _ _ _ (fun w k4 vw H4 F4 s4 R4 r4 => ?_) k3⟩
  exact h' R4 (rO_stp R2 (s3.trans s4) r2) r4 (mg' _ _ _ _ (fun z kz vz H5 F5 s5 R5 r5 => kz vz H5 F5 ((((s1.trans s2).trans s3).trans s4).trans s5) R5 r5) k4)
theorem pd_chain {op op' : CmpOp} {r r' : R2} {g g' : D → D → (D → Prop) → Prop} (ho : OpR X (compareOp op) r) (ho' : OpR X (compareOp op') r') (h : By2 X C rE r g) (h' : By2 X C rE r' g') (mg : Mo2 g) (mg' : Mo2 g') (ha : PO X C a ta) (hb : PO X C b tb) (hc : PO X C c tc)
    (hm : lastMarks [op, op'] [b, c] = false := by with_unfolding_all rfl) : PD X C (.Compare a [op, op'] [b, c] pos) (dChain g g' ta tb tc) := by
  obtain ⟨m, i⟩ := dch_imp rfl h h' mg mg' ha hb hc
  exact ⟨m, pe_imp (pe_chain ho ho' ha.run hb.run hc.run hm) i⟩
theorem dt_chain {op op' : CmpOp} {r r' : R2} {g g' : D → D → (D → Prop) → Prop} (ho : OpR X (compareOp op) r) (ho' : OpR X (compareOp op') r') (h : By2 X C rE r g) (h' : By2 X C rE r' g') (mg : Mo2 g) (mg' : Mo2 g') (ha : PO X C a ta) (hb : PO X C b tb) (hc : PO X C c tc)
    (hm : lastMarks [op, op'] [b, c] = false := by with_unfolding_all rfl) : DT X C (.Compare a [op, op'] [b, c] pos) (tTestD (dChain g g' ta tb tc)) := by
  obtain ⟨m, i⟩ := dch_imp rfl h h' mg mg' ha hb hc
  refine ⟨fun ρ P P' k => m _ _ _ fun d => mono_isB k, pt_imp (pt_chain ho ho' ha.run hb.run hc.run hm) fun σ H Q ⟨F, O, ρ, R, q⟩ => i σ H _ ⟨F, O, ρ, R, m _ _ _ (fun d k v H' F' s R' r => ?_) q⟩⟩
  obtain ⟨b, e, hb⟩ := rdd_isB r k
  exact ⟨b, e, hb H' F' s R'⟩
theorem by_lt : By2 X C rE (rI0 fun i j => .bl (decide (i < j))) gLt := by_I0 fun _ _ _ _ _ => by exact rfl
theorem by_le : By2 X C rE (rI0 fun i j => .bl (decide (i ≤ j))) gLe := by_I0 fun _ _ _ _ _ => by exact rfl
theorem pd_lelt (ha : PO X C a ta) (hb : PO X C b tb) (hc : PO X C c tc) (hm : lastMarks [.LtE, .Lt] [b, c] = false := by with_unfolding_all rfl) : PD X C (.Compare a [.LtE, .Lt] [b, c] pos) (dChain gLe gLt ta tb tc) := pd_chain op_le op_lt by_le by_lt mo_gI0 mo_gI0 ha hb hc hm
theorem pd_lele (ha : PO X C a ta) (hb : PO X C b tb) (hc : PO X C c tc) (hm : lastMarks [.LtE, .LtE] [b, c] = false := by with_unfolding_all rfl) : PD X C (.Compare a [.LtE, .LtE] [b, c] pos) (dChain gLe gLe ta tb tc) := pd_chain op_le op_le by_le by_le mo_gI0 mo_gI0 ha hb hc hm
theorem dt_lelt (ha : PO X C a ta) (hb : PO X C b tb) (hc : PO X C c tc) (hm : lastMarks [.LtE, .Lt] [b, c] = false := by with_unfolding_all rfl) : DT X C (.Compare a [.LtE, .Lt] [b, c] pos) (tTestD (dChain gLe gLt ta tb tc)) := dt_chain op_le op_lt by_le by_lt mo_gI0 mo_gI0 ha hb hc hm
theorem dt_lele (ha : PO X C a ta) (hb : PO X C b tb) (hc : PO X C c tc) (hm : lastMarks [.LtE, .LtE] [b, c] = false := by with_unfolding_all rfl) : DT X C (.Compare a [.LtE, .LtE] [b, c] pos) (tTestD (dChain gLe gLe ta tb tc)) := dt_chain op_le op_le by_le by_le mo_gI0 mo_gI0 ha hb hc hm
/-! x is None, is not None -/
def gIsNo (neg : Bool) : D → (D → Prop) → Prop := fun x P => P (.bool (match x with | .none => !neg | _ => neg))
theorem mo_gIsNo {neg : Bool} : Mo1 (gIsNo neg) := fun x P P' k h => k _ h
/-! module constants that are ints -/
theorem pd_glob {x : Str} {i : Int} {t : Tok} (hg : Gl X x) (hm : X.mg x = some (.int i t)) (hd : (x == ("__debug__" : Str)) = false := by decide) : PD X C (.Name x pos) (tCD (.int i)) := pd_c (pe_glob (v := .int i) hg hm ⟨t, rfl⟩ hd) fun _ _ _ => rfl
/-! == of data -/
open SeqAt in
def gEqU (neg : Bool) : D → D → (D → Prop) → Prop := fun x y P => shaped x = true ∧ shaped y = true ∧ P (.bool (if neg then !PyData.eqv x y else PyData.eqv x y))
theorem mo_gEqU {neg : Bool} : Mo2 (gEqU neg) := fun x y P P' k h => ⟨h.1, h.2.1, k _ h.2.2⟩
def rEqU (K : PySem.W.Frag) (neg : Bool) : R2 := fun v u H Q => ∃ (d e : D) (S S' : Addr → Prop), Rdd K S H d v ∧ Rdd K S' H e u ∧ SeqAt.shaped d = true ∧ SeqAt.shaped e = true ∧ (∃ o φ, H sysModules = some (.frz o (.ext φ))) ∧ Q (.bl (if neg then !PyData.eqv d e else PyData.eqv d e)) H
theorem op_eqU (hu : X.A.units + 64 < cLine) : OpR X (compareOp .Eq) (rEqU X.K false) := by
  intro pins s σ H x y v u Q I rx ry h
  obtain ⟨d, e, S, S', hd, he, s1, s2, hs, q⟩ := h
  obtain ⟨as, r1, _⟩ := Rdd.reads I hs d x v hd rx
  obtain ⟨bs, r2, _⟩ := Rdd.reads I hs e y u he ry
  exact SeqAt.compareEq_shaped r1 r2 s1 s2 hu ⟨.bl _, H, I, rfl, q⟩
theorem op_neU (hu : X.A.units + 64 < cLine) : OpR X (compareOp .NotEq) (rEqU X.K true) := by
  intro pins s σ H x y v u Q I rx ry h
  obtain ⟨d, e, S, S', hd, he, s1, s2, hs, q⟩ := h
  obtain ⟨as, r1, _⟩ := Rdd.reads I hs d x v hd rx
  obtain ⟨bs, r2, _⟩ := Rdd.reads I hs e y u he ry
  exact SeqAt.compareNe_shaped r1 r2 s1 s2 hu ⟨.bl _, H, I, rfl, q⟩
theorem rdd_for {K : PySem.W.Frag} {F : Addr → Prop} {O : Fps} {ρ : List Slot} {σ : L2.St} {H : Hp} {d : D} {v : V} (R : Rel K C F O ρ σ H) (rx : rO K F O H H d v) : ∃ S, Rdd K S H d v := by
  cases d <;> first | exact ⟨F, rx⟩ | skip
  obtain ⟨a, vs, e, _, hl, r⟩ := rx
  exact ⟨fun b => F b ∨ b = a, a, vs, e, .inr rfl, hl, RdL.keep (fun b => Or.inl) (fun _ _ z => z) (fun _ _ _ z => z) _ _ r⟩
theorem by_eqU {neg : Bool} : By2 X C rE (rEqU X.K neg) (gEqU neg) := fun {F O ρ σ H x y v u Q} R rx ry h => by
  obtain ⟨S, hx⟩ := rdd_for R rx
  obtain ⟨S', hy⟩ := rdd_for R ry
  obtain ⟨_, _, _, _, _, _, hsys⟩ := R.dk
  exact ⟨x, y, S, S', hx, hy, h.1, h.2.1, hsys, h.2.2 _ _ _ (Stp.refl _ _ _) R rfl⟩
theorem pd_eqU (hu : X.A.units + 64 < cLine) (ha : PO X C a ta) (hb : PO X C b tb) : PD X C (.Compare a [.Eq] [b] pos) (dBi (gEqU false) ta tb) := pv_2 (fun h h' => pe_cmpR (op_eqU hu) h h' (nomark _)) by_eqU mo_gEqU ha hb
theorem pd_neU (hu : X.A.units + 64 < cLine) (ha : PO X C a ta) (hb : PO X C b tb) : PD X C (.Compare a [.NotEq] [b] pos) (dBi (gEqU true) ta tb) := pv_2 (fun h h' => pe_cmpR (op_neU hu) h h' (nomark _)) by_eqU mo_gEqU ha hb
theorem dt_eqU (hu : X.A.units + 64 < cLine) (ha : PO X C a ta) (hb : PO X C b tb) : DT X C (.Compare a [.Eq] [b] pos) (tTestD (dBi (gEqU false) ta tb)) := dt_2 (fun h h' => pt_cmpR (op_eqU hu) h h' (nomark _)) by_eqU mo_gEqU ha hb
theorem dt_neU (hu : X.A.units + 64 < cLine) (ha : PO X C a ta) (hb : PO X C b tb) : DT X C (.Compare a [.NotEq] [b] pos) (tTestD (dBi (gEqU true) ta tb)) := dt_2 (fun h h' => pt_cmpR (op_neU hu) h h' (nomark _)) by_eqU mo_gEqU ha hb
/-! repr of an int -/
def gReprI : D → (D → Prop) → Prop
  | .int i, P => i.natAbs.log2 < 1920 ∧ P (.str (toString i))
  | _, _ => False
theorem mo_gReprI : Mo1 gReprI := fun x P P' k h => by cases x <;> first | exact h.elim | exact ⟨h.1, k _ h.2⟩
theorem pd_reprI (hg : Gl X "repr") (hm : X.mg "repr" = none) (he : PO X C e te) (hs : starEach [e] X.env = (false, eval e X.env) :: starEach [] X.env := by rfl) : PD X C (.Call (.Name "repr" p) [e] [] pos) (dUn gReprI te) :=
  pv_b1 SkE.call_repr_int (fun {F O ρ σ H x v Q} R rx h => by
    cases x <;> first | exact h.elim | skip
    exact ⟨_, by rw [show v = _ from rx], h.1, h.2 _ _ _ (Stp.refl _ _ _) R rfl⟩) mo_gReprI hg hm (by decide +kernel) he (hs := hs)
end
end DL

namespace DL
open PySem PySem.Spec PyProof.Rows L2

/-! ### t * 1 -/
theorem tuple_mulOne (l : Addr) (its : Array Value) (n : Nat) (dd : Option Addr) (sl : Array (Option Value)) (u : Tok) :
    Meets (Builtin.«tuple.__mul__» ⟨[.ref l, .int 1 u], []⟩) (fun _ R s => s.heap.get? l = some { cls := .type "tuple", dict := dd, data := .seq its n, slots := sl } ∧ R (.ok (.ret (Value.ref l))) s) :=
  .of_wp fun prog w A R s h => by
    obtain ⟨hp, g, d, tk, os⟩ := s
    obtain ⟨hl, h⟩ := h
    have f1 := AutoSeq1.idx_int
    have c1 : (its.isEmpty || (1 : Int) == 1) = true := by simp
    wp_walk using wpAny_loadPart' hl
    repeat (first
      | (refine wpAny_ite_false (decide_eq_false (by decide)) ?_; wp_walk using wpAny_loadPart' hl)
      | (refine wpAny_ite_true (decide_eq_true c1) ?_; wp_walk using wpAny_loadPart' hl))
    exact ⟨_, rfl, h⟩
theorem op_repT1 {X : Cx} : OpR X (binaryOp .Mult) (fun x y H Q => ∃ l xs, x = .ref l ∧ y = .int 1 ∧ SqT X.K H l xs ∧ Q (.ref l) H) := by
  intro pins s σ H x y v u Q I rx ry h
  obtain ⟨l, xs, rfl, rfl, hT, q⟩ := h
  cases rx
  obtain ⟨t, rfl⟩ := ry
  obtain ⟨its, r, ⟨⟨cls, dd, data, sl⟩, ho, hc, n, hd⟩, hs⟩ := I.tuple hT
  simp only at hc hd
  subst hc hd
  exact wpAny_binaryOp_repeat_ref (T := "tuple") (U := "int") (by decide) ⟨_, ho, rfl⟩ (fun s' => typeIs_int s' 1 t) noFill_tuple_mul F.fills_int_mul F.slot_int_rmul repeat_tuple F.slot_int_index.lookup
    (call_meets F.slot_int_rmul (typeIs_int s 1 t) F.entry_int_rmul (F.args_int_rmul_2 _ _) (int_rmul_tuple 1 t l its.toArray n dd sl)
      ⟨ho, rfl, ⟨_, ho, rfl⟩, call_meets F.slot_tuple_mul ⟨_, ho, rfl⟩ F.entry_tuple_mul (F.args_tuple_mul_2 _ _) (tuple_mulOne l its.toArray n dd sl t) ⟨ho, .ref l, H, I, rfl, q⟩⟩)
def gRepT : D → D → (D → Prop) → Prop
  | .tuple ds, .int k, P => (1 ≤ k ∧ k ≤ 1000 ∧ ds ≠ [] ∧ ds.length ≤ 1000) ∧ P (.tuple (List.replicate k.toNat ds).flatten)
  | _, _, _ => False
theorem mo_gRepT : Mo2 gRepT := fun x y P P' k h => by
  cases x <;> first | exact h.elim | (cases y <;> first | exact h.elim | exact ⟨h.1, k _ h.2⟩)
section
variable {X : Cx} {C : Ct} {a b : Expr} {ta tb : TED} {pos : Pos}
theorem pd_repT (ha : PO X C a ta) (hb : PO X C b tb) : PD X C (.BinOp a .Mult b pos) (dBi gRepT ta tb) := pv_2 (pe_op (op_repT1.or op_repT)) (fun {F O ρ σ H x y v u Q} R rx ry h => by
  cases x <;> first | exact h.elim | skip
  cases y <;> first | exact h.elim | skip
  obtain ⟨l, xs, rfl, hl, r⟩ := rx
  obtain ⟨⟨h1, h2, h3, h4⟩, q⟩ := h
  cases ry
  by_cases e : ‹Int› = 1
  · subst e
    refine .inl ⟨l, xs, rfl, rfl, hl, q _ _ _ (Stp.refl _ _ _) R ⟨l, xs, rfl, hl, ?_⟩⟩
    have : (List.replicate (1 : Int).toNat ‹List D›).flatten = ‹List D› := by simp
    rw [this]
    exact r
  · refine .inr ⟨l, _, xs, rfl, rfl, hl, fun z => h3 (List.length_eq_zero_iff.mp (by rw [← r.len, z]; rfl)), by omega, h2, by rw [r.len]; exact h4, fun p n => ?_⟩
    obtain ⟨s, R', r'⟩ := new_tup R (r.rep _) n
    exact q _ _ _ s R' r') mo_gRepT ha hb
end
/-! ### x = own.pop() -/
def sPop (i j : Nat) : TSD := fun D ρ => match ρ[i]? with
  | some (.own ds) => ∃ d, ds[ds.length - 1]? = some d ∧ D.nx ((ρ.set i (.own ds.dropLast)).set j (.val d))
  | _ => False
theorem RdL.dropLast {K : PySem.W.Frag} {S : Addr → Prop} {H : Hp} {ds : List D} {vs : List V} (r : RdL K S H ds vs) : RdL K S H ds.dropLast vs.dropLast := by
  rw [List.dropLast_eq_take, List.dropLast_eq_take, r.len]
  exact r.take _
theorem psd_setPop {X : Cx} {C : Ct} {x y : Str} {p p2 p3 pos pos' : Pos} (i j : Nat) (hNd : X.N.Nodup) (hN : X.N[i]? = some x := by rfl) (hv : Vis X.env.scope x := by first | exact Or.inl rfl | exact Or.inr (Or.inl rfl) | exact Or.inr (Or.inr rfl)) (hd : (x == ("__debug__" : Str)) = false := by decide)
    (hcd : (x == ("__classdict__" : Str)) = false := by decide) (hj : X.N[j]? = some y := by rfl) (hy : Loc X.env.scope y := by first | exact Or.inl rfl | exact Or.inr rfl)
    (hbase : attributeBase (.Name x p) "pop" X.env (eval (.Name x p) X.env) = eval (.Name x p) X.env := by rfl) (hline : (p2.endLine == p3.line) = true := by rfl)
    (hs : swapsWith (.Call (.Attribute (.Name x p) "pop" p2) [] [] p3) (some (.Name y pos')) pos.line X.env = pure false := by rfl)
    (hf : X.fn y = true ∨ X.env.scope.names.lookup y = some .local := by first | exact .inl rfl | exact .inr rfl | assumption) :
    PSD X C (.Assign [.Name y pos'] (.Call (.Attribute (.Name x p) "pop" p2) [] [] p3) pos) (sPop i j) := by
  refine ⟨fun D D' ρ l h => ?_, ps_imp (ps_set hNd hj hy (pe_bm0 PySem.F.plainAttrs_list PySem.F.slot_list_pop PySem.F.type_list_pop mt_pop (pe_var hN hv hd hcd) hbase hline) hs hf) fun D σ H ⟨F, O, ρ, R, q⟩ => ?_⟩
  · unfold sPop at h ⊢
    split at h
    · obtain ⟨d, e, h⟩ := h
      exact ⟨d, e, l.nx _ h⟩
    · exact h.elim
  · unfold sPop at q
    split at q
    · rename_i ds es
      obtain ⟨d, ed, k⟩ := q
      obtain ⟨a, vs, e1, ha, hl, r⟩ := R.sl i _ es
      obtain ⟨v, ev, rv⟩ := r.get ed
      refine ⟨.ref a, e1, .inl ⟨rfl, vs, SqL.of hl⟩, a, vs, v, rfl, rfl, hl, by rw [r.len]; exact ev, ?_⟩
      have R1 := R.wrOwn es e1 ha hl r.dropLast
      have w := FSt.wr (F := F) (u := .lst vs.dropLast) hl (.inl ⟨_, rfl⟩) (R.oo i a ha).1
      exact k F O _ _ w (R1.setV j (rv.fst w))
    · exact q.elim
end DL

namespace DL
open PySem PySem.Spec PyProof.Rows L2

/-! ### own lists of own lists -/
def rF2 (K : PySem.W.Frag) : RR := fun F O H₀ H d v => ∃ (rows : List (List D)) (a : Addr) (as : List Addr), d = .list (rows.map .list) ∧ v = .ref a ∧ (a :: as).Nodup ∧ (∀ b ∈ a :: as, Nn H₀ b ∧ ¬ F b ∧ ∀ i, b ∉ O i) ∧ H a = some (.lst (as.map V.ref)) ∧ RowsR K F H as rows
section
variable {K : PySem.W.Frag} {C : Ct} {F F' : Addr → Prop} {O : Fps} {ρ : List Slot} {σ : L2.St} {H H' : Hp}
theorem RowsR.there {as : List Addr} : ∀ {rows : List (List D)}, RowsR K F H as rows → ∀ b ∈ as, ∃ vs, H b = some (.lst vs) := by
  induction as with
  | nil => intro _ _ b hb; cases hb
  | cons c as ih =>
    rintro rows ⟨r, rest, vs, e, h1, _, h3⟩ b hb
    rcases List.mem_cons.mp hb with rfl | hb
    · exact ⟨vs, h1⟩
    · exact ih h3 b hb
theorem RowsR.len {as : List Addr} : ∀ {rows : List (List D)}, RowsR K F H as rows → as.length = rows.length := by
  induction as with
  | nil => intro rows h; rw [show rows = [] from h]; rfl
  | cons c as ih =>
    rintro rows ⟨r, rest, vs, rfl, _, _, h3⟩
    rw [List.length_cons, List.length_cons, ih h3]
theorem RowsR.snoc {c : Addr} {vs : List V} {r : List D} (h1 : H c = some (.lst vs)) (h2 : RdL K F H r vs) {as : List Addr} : ∀ {rows : List (List D)}, RowsR K F H as rows → RowsR K F H (as ++ [c]) (rows ++ [r]) := by
  induction as with
  | nil => intro rows h; rw [show rows = [] from h]; exact ⟨r, [], vs, rfl, h1, h2, rfl⟩
  | cons b as ih =>
    rintro rows ⟨r', rest, ws, rfl, g1, g2, g3⟩
    exact ⟨r', rest ++ [r], ws, rfl, g1, g2, ih g3⟩
/-- what stands at those places stays along a step -/
theorem RowsR.stpR (R : Rel K C F O ρ σ H) (s : Stp C.q F F' H H') {as : List Addr} {rows : List (List D)} (n : ∀ b ∈ as, b ≠ C.q.p ∧ b ≠ C.q.l) (h : RowsR K F H as rows) : RowsR K F' H' as rows :=
  RowsR.keep (fun _ _ q => q.stpR R s) as rows (fun b hb vs q => s.kp.kp b _ q (n b hb).1 (n b hb).2 (fun ps z => nomatch z)) h
end
theorem comp_imp2 {K : PySem.W.Frag} {C : Ct} {ti : TID} {tt : TTD} {te : TED} (g : Tgt) (own : List (Str × Nat)) (hi : ∀ ρ (P P' : List D → Prop), (∀ d, P d → P' d) → ti ρ P → ti ρ P') (hv : ∀ i ∈ g.ixs, i ∈ own.map (·.2)) (mt : MonoT tt) (me : MonoE te) :
    ∀ σ H Q, lift (rF2 K) K C (dComp ti g tt te (own.map (·.2))) σ H Q → tLc (liftI K C ti) (gTgt K g) (liftT K C tt) (lift (rF K) K C te) (own.map (·.2)) σ H Q := by
  refine fun σ H Q ⟨F, O, ρ, R, q⟩ => ⟨F, O, ρ, R, hi _ _ _ (fun ds k J H1 F1 s1 R1 fd D hD => ?_) q⟩
  obtain ⟨n1, n2, n3, n4, n5⟩ := R1.np (Nn.of hD)
  have hD0 : Nn H D := s1.kp.free (Nn.of hD)
  refine ⟨fun i m H' => m = ds.length - i ∧ i ≤ ds.length ∧ ∃ F' rows as, Stp C.q F F' H H' ∧ FSt F1 F' H1 H' ∧ Rel K C F' O ρ σ H' ∧ H' D = some (.lst (as.map V.ref)) ∧ ¬ F' D ∧ RowsR K F' H' as rows ∧ (D :: as).Nodup ∧ (∀ b ∈ as, ¬ F' b ∧ Nn H b) ∧
    compD g tt te (wipeD ρ (own.map (·.2))) (ds.drop i) (rows.map .list) (fun d => ∀ v H' F', Stp C.q F F' H H' → Rel K C F' O ρ σ H' → rF2 K F' O H H' d v → Q v H'), ⟨ds.length, rfl, Nat.zero_le _, F1, [], [], ?_, ?_, R1.new hD, upd_same, n4, rfl, (by simp), (fun b hb => by cases hb), k⟩, ?_⟩
  · exact s1.trans (Stp.new hD)
  · exact FSt.of R1 (Stp.new hD)
  rintro i m H' ⟨rfl, hile, F', rows, as, sS, sF, R', hl, nf, ra, nd, fa, k'⟩
  have npl : ∀ b ∈ as, b ≠ C.q.p ∧ b ≠ C.q.l := fun b hb => ⟨(R.np (fa b hb).2).1, (R.np (fa b hb).2).2.1⟩
  by_cases hlt : i < ds.length
  · refine .inr ⟨fd.go i hlt sF R', fun H2 => ∃ m', m' < ds.length - i ∧ (m' = ds.length - (i + 1) ∧ i + 1 ≤ ds.length ∧ ∃ F' rows as, Stp C.q F F' H H2 ∧ FSt F1 F' H1 H2 ∧ Rel K C F' O ρ σ H2 ∧ H2 D = some (.lst (as.map V.ref)) ∧ ¬ F' D ∧ RowsR K F' H2 as rows ∧ (D :: as).Nodup ∧ (∀ b ∈ as, ¬ F' b ∧ Nn H b) ∧
      compD g tt te (wipeD ρ (own.map (·.2))) (ds.drop (i + 1)) (rows.map .list) (fun d => ∀ v H' F', Stp C.q F F' H H' → Rel K C F' O ρ σ H' → rF2 K F' O H H' d v → Q v H')), fun H2 z => z, fun x H'' y => ?_⟩
    obtain ⟨s2, R2, r2⟩ := fd.yld i _ (List.getElem?_eq_getElem hlt) sF R' x H'' y
    rw [List.drop_eq_getElem_cons hlt, compD] at k'
    have fwd : ∀ {F5 : Addr → Prop} {H5 : Hp}, Stp C.q F' F5 H' H5 → H5 D = some (.lst (as.map V.ref)) ∧ ¬ F5 D ∧ RowsR K F5 H5 as rows ∧ ∀ b ∈ as, ¬ F5 b ∧ Nn H b := fun {F5 H5} s5 =>
      ⟨s5.kp.kp D _ hl n1 n2 (fun ps z => nomatch z), fun z => (s5.nw D z).elim nf fun n => n.no hl (fun ps z => nomatch z), ra.stpR R' s5 npl, fun b hb => ⟨fun z => by
        obtain ⟨vs, e⟩ := ra.there b hb
        exact (s5.nw b z).elim (fa b hb).1 fun n => n.no e (fun ps z => nomatch z), (fa b hb).2⟩⟩
    refine tgt_do (t := g) (R2.wipe (own.map (·.2))) r2 k' ?_
    intro ρ3 σ3 b3 R3 k3
    refine ⟨?_, ?_⟩
    · rw [b3.wipe _ hv]
      clear b3 k3 R3
      have b4 : But (own.map (·.2)) σ (L2.wipe σ (own.map (·.2))) := by
        refine ⟨wipe_length _ _, fun j hj => ?_⟩
        have : ∀ ws : List Nat, j ∉ ws → (L2.wipe σ ws)[j]? = σ[j]? := by
          intro ws
          induction ws with
          | nil => intro _; rfl
          | cons w ws ih => intro h; unfold L2.wipe; rw [List.getElem?_set_ne (fun e => h (by rw [e]; exact List.mem_cons_self)), ih (fun z => h (List.mem_cons_of_mem _ z))]
        exact this _ hj
      exact b4.wipe _ fun _ h => h
    have back : ∀ {F5 : Addr → Prop} {H5 : Hp}, Stp C.q F' F5 H'' H5 → Rel K C F5 O ρ3 σ3 H5 → Rel K C F5 O ρ σ H5 := fun {F5 H5} s5 R5 =>
      R2.step s5 R5.dk R5.tb fun a ha _ => R5.fz a ha
    refine ⟨F', O, ρ3, R3, mt _ _ _ (fun b k4 H5 F5 s5 R5 => ?_) k3⟩
    have R5' := back s5 R5
    cases b with
    | false =>
      simp only [Bool.false_eq_true, if_false] at k4 ⊢
      obtain ⟨z1, z2, z3, z4⟩ := fwd (s2.trans s5)
      exact ⟨ds.length - (i + 1), by omega, rfl, hlt, F5, rows, as, sS.trans (s2.trans s5), sF.trans (FSt.of R' (s2.trans s5)), R5', z1, z2, z3, nd, z4, k4⟩
    | true =>
      simp only [if_true] at k4 ⊢
      obtain ⟨y1, y2, y3, y4⟩ := fwd (s2.trans s5)
      refine ⟨F5, O, ρ3, R5, me _ _ _ (fun d k6 v H6 F6 s6 R6 r6 => ?_) k4⟩
      have R6' := back (s5.trans s6) R6
      have st : Stp C.q F' F6 H' H6 := s2.trans (s5.trans s6)
      obtain ⟨z1, z2, z3, z4⟩ := fwd st
      cases d <;> first | exact r6.elim | skip
      rename_i er
      obtain ⟨c, ws, rfl, c1, c2, c3, c4, c5⟩ := r6
      have cD : c ≠ D := fun z => c1.no (o := .lst (as.map V.ref)) (by rw [z]; exact y1) (fun ps z => nomatch z)
      have cas : c ∉ as := fun z => by
        obtain ⟨vs, e⟩ := y3.there c z
        exact c1.no e (fun ps z => nomatch z)
      have Das : D ∉ as := (List.nodup_cons.mp nd).1
      have lw : FSt F6 F6 H6 (upd H6 D (.lst (as.map V.ref ++ [.ref c]))) := FSt.wr z1 (.inl ⟨_, rfl⟩) z2
      have hc0 : Nn H c := (sS.trans (s2.trans s5)).kp.free c1
      have hlen := z3.len
      refine ⟨as.map V.ref, z1, by rw [List.length_map, hlen, ← List.length_map (f := PyData.list)]; exact k6.1, ds.length - (i + 1), by omega, rfl, hlt, F6, rows ++ [er], as ++ [c], ?_, sF.trans ((FSt.of R' st).trans lw), R6'.wr z1 (.inl ⟨_, rfl⟩) (.inl ⟨_, rfl⟩) z2 n1 n2 n3 n5, ?_, z2, ?_, ?_, ?_, ?_⟩
      · have s7 := sS.trans st
        exact ⟨⟨fun b o e h1 h2 h3 => (upd_ne fun (z : b = D) => hD0.no (by rw [← z]; exact e) h3).trans (s7.kp.kp b o e h1 h2 h3), fun b o e h => by
          by_cases z : b = D
          · exact absurd (hD0.no (by rw [← z]; exact e) h) id
          · rw [upd_ne z]; exact s7.kp.th b o e h⟩, s7.up, s7.nw⟩
      · rw [upd_same, List.map_append]
        rfl
      · refine RowsR.snoc ((upd_ne cD).trans c4) (c5.fst lw) ?_
        exact RowsR.keep (fun _ _ q => q.fst lw) as rows (fun b hb vs q => (upd_ne fun (z : b = D) => Das (z ▸ hb)).trans q) z3
      · rw [← List.cons_append]
        exact List.nodup_append.mpr ⟨nd, by simp, fun x hx y hy => by
          rw [List.mem_singleton.mp hy]
          rcases List.mem_cons.mp hx with rfl | hx
          · exact Ne.symm cD
          · exact fun z => cas (z ▸ hx)⟩
      · intro b hb
        rcases List.mem_append.mp hb with hb | hb
        · exact z4 b hb
        · rw [List.mem_singleton.mp hb]; exact ⟨c2, hc0⟩
      · rw [List.map_append]
        exact k6.2
  · have e : ds.drop i = [] := List.drop_eq_nil_of_le (by omega)
    rw [e] at k'
    refine .inl ⟨fd.stop i (by omega) sF R', k' _ H' F' sS R' ⟨rows, D, as, rfl, rfl, nd, fun b hb => ?_, hl, ra⟩⟩
    rcases List.mem_cons.mp hb with rfl | hb
    · exact ⟨hD0, nf, n5⟩
    · exact ⟨(fa b hb).2, (fa b hb).1, (R.np (fa b hb).2).2.2.2.2⟩
/-- a slot takes a fresh list of fresh lists as its own -/
theorem Rel.setF2 {K : PySem.W.Frag} {C : Ct} {F : Addr → Prop} {O : Fps} {ρ : List Slot} {σ : L2.St} {H : Hp} (R : Rel K C F O ρ σ H) (i : Nat) {a : Addr} {as : List Addr} {rows : List (List D)} (hx : ∀ b ∈ a :: as, ¬ F b ∧ (∀ j, b ∉ O j) ∧ b ≠ C.q.p ∧ b ≠ C.q.l ∧ Nn C.H0 b) (nd : (a :: as).Nodup) (hl : H a = some (.lst (as.map V.ref))) (r : RowsR K F H as rows) :
    Rel K C F (putO O i (a :: as)) (ρ.set i (.own2 rows)) (σ.set i (some (.ref a))) H where
  ln := by rw [List.length_set, List.length_set]; exact R.ln
  dk := R.dk
  tb := R.tb
  fz := R.fz
  kp := R.kp
  up := R.up
  nw := R.nw
  sl := fun j s e => by
    rcases get_set e with ⟨rfl, hlt, rfl⟩ | ⟨hj, e⟩
    · refine ⟨a, as, by rw [List.getElem?_set_self (Nat.lt_of_lt_of_le hlt R.ln)], ?_, ?_, nd, hl, r⟩
      · unfold putO
        rw [if_pos rfl]
        exact List.mem_cons_self
      · intro b hb
        unfold putO
        rw [if_pos rfl]
        exact List.mem_cons_of_mem _ hb
    · rw [List.getElem?_set_ne (Ne.symm hj)]
      have : putO O i (a :: as) j = O j := if_neg hj
      rw [this]
      exact R.sl j s e
  oo := fun j b hb => by
    by_cases e : j = i
    · unfold putO at hb
      rw [if_pos e] at hb
      obtain ⟨h1, h2, h3, h4, h5⟩ := hx b hb
      have hv : ∃ vs, H b = some (.lst vs) := by
        rcases List.mem_cons.mp hb with rfl | hb
        · exact ⟨_, hl⟩
        · exact r.there b hb
      obtain ⟨vs, ev⟩ := hv
      exact ⟨h1, h3, h4, h5, by rw [ev]; simp, fun ps z => by rw [ev] at z; cases z⟩
    · unfold putO at hb
      rw [if_neg e] at hb
      exact R.oo j b hb
  dj := fun j k hjk b hb hb' => by
    unfold putO at hb hb'
    by_cases e : j = i
    · rw [if_pos e] at hb
      rw [if_neg (fun z => hjk (e.trans z.symm))] at hb'
      exact (hx b hb).2.1 k hb'
    · rw [if_neg e] at hb
      by_cases e' : k = i
      · rw [if_pos e'] at hb'
        exact (hx b hb').2.1 j hb
      · rw [if_neg e'] at hb'
        exact R.dj j k hjk b hb hb'
theorem map_list_inj : ∀ {l l' : List (List D)}, l.map PyData.list = l'.map PyData.list → l = l'
  | [], [], _ => rfl
  | [], _ :: _, h => by cases h
  | _ :: _, [], h => by cases h
  | x :: l, y :: l', h => by
    rw [List.map_cons, List.map_cons] at h
    have h1 := (List.cons.inj h).1
    have h2 := (List.cons.inj h).2
    rw [PyData.list.inj h1, map_list_inj h2]
def sSetF2 (i : Nat) (te : TED) : TSD := fun D ρ => te ρ fun d => ∃ rows : List (List DL.D), d = .list (rows.map .list) ∧ D.nx (ρ.set i (.own2 rows))
/-- name = [[..] for ..], the items fresh lists -/
theorem psd_setLcF2 {X : Cx} {C : Ct} (i : Nat) {y : Str} {py : Pos} {elt tg iter : Expr} {ifs : List Expr} {scope : Scope} {pos spos : Pos} {ti : TID} {tt : TTD} {te : TED} (g : Tgt) (own : List (Str × Nat)) (hc : X.calm = true) (hN : X.N.Nodup) (hi : DI X C tg iter ti) (ok : BlkOk X.N X.env.scope scope own)
    (hv : ∀ i ∈ g.ixs, i ∈ own.map (·.2))
    (hg : ∀ (s : Shared) (H : Hp) (A : Addr) (cl : List (Str × Addr)) (fp : List Addr), PG (X.blk s H scope (compEnvC scope cl A X.env) fp) tg (gTgt X.K g))
    (ht : ∀ (s : Shared) (H : Hp) (A : Addr) (cl : List (Str × Addr)) (fp : List Addr), DTs (X.blk s H scope (compEnvC scope cl A X.env) fp) C ifs tt)
    (he : ∀ (s : Shared) (H : Hp) (A : Addr) (cl : List (Str × Addr)) (fp : List Addr), PF (X.blk s H scope (compEnvC scope cl A X.env) fp) C elt te) (hy : X.N[i]? = some y := by rfl) (hyl : X.env.scope.names.lookup y = some .local := by rfl)
    (hsw : swapsWith (.ListComp elt [⟨tg, iter, ifs, 0⟩] scope pos) (some (.Name y py)) spos.line X.env = pure true := by rfl) (hs : ∀ x, foldedSetIterable iter X.env x = pure x := by intro _; rfl) :
    PSD X C (.Assign [.Name y py] (.ListComp elt [⟨tg, iter, ifs, 0⟩] scope pos) spos) (sSetF2 i (dComp ti g tt te (own.map (·.2)))) := by
  have mt : MonoT tt := (ht X.s_0 (fun _ => none) 0 [] []).mono
  have me : MonoE te := (he X.s_0 (fun _ => none) 0 [] []).mono
  have m : MonoE (dComp ti g tt te (own.map (·.2))) := fun ρ P P' k => hi.mono _ _ _ fun ds => compD_mono mt me ds [] P P' k
  have im := comp_imp2 (K := X.K) (C := C) g own hi.mono hv mt me
  refine ⟨fun D D' ρ l => m _ _ _ fun d ⟨rows, e, h⟩ => ⟨rows, e, l.nx _ h⟩, ps_imp (ps_setLc (te := lift (rF X.K) X.K C te) (tt := liftT X.K C tt) hc hN hy hyl hsw hi.run ok hg (fun s H A cl fp => (ht s H A cl fp).run) (fun s H A cl fp => (he s H A cl fp).run) hs) fun D σ H ⟨F, O, ρ, R, q⟩ => im _ _ _ ?_⟩
  refine ⟨F, O, ρ, R, m _ _ _ (fun d ⟨rows, ed, k⟩ v H' F' s R' r => ?_) q⟩
  obtain ⟨rows', a, as, e1, rfl, nd, hx, hl, rr⟩ := r
  have er : rows' = rows := by
    have h2 : rows'.map PyData.list = rows.map PyData.list := PyData.list.inj (e1.symm.trans ed)
    exact map_list_inj h2
  subst er
  exact k F' _ _ H' (FSt.of R s) (R'.setF2 i (fun b hb => ⟨(hx b hb).2.1, (hx b hb).2.2, (R.np (hx b hb).1).1, (R.np (hx b hb).1).2.1, (R.np (hx b hb).1).2.2.1⟩) nd hl rr)
end DL

namespace DL
open PySem PySem.Spec PyProof.Rows L2

/-! ### a store into a list of own lists; freezing it -/
section
variable {K : PySem.W.Frag} {C : Ct} {F F' : Addr → Prop} {O : Fps} {ρ : List Slot} {σ : L2.St} {H H' : Hp}
theorem RowsR.get {as : List Addr} : ∀ {rows : List (List D)} {j : Nat} {r : List D}, RowsR K F H as rows → rows[j]? = some r → ∃ b vs, as[j]? = some b ∧ H b = some (.lst vs) ∧ RdL K F H r vs := by
  induction as with
  | nil => intro rows j r h e; rw [show rows = [] from h] at e; simp at e
  | cons c as ih =>
    rintro rows j r ⟨r0, rest, vs, rfl, h1, h2, h3⟩ e
    cases j with
    | zero => simp at e; subst e; exact ⟨c, vs, rfl, h1, h2⟩
    | succ j =>
      obtain ⟨b, ws, e1, e2, e3⟩ := ih h3 (by simpa using e)
      exact ⟨b, ws, by simpa using e1, e2, e3⟩
theorem RowsR.set {b : Addr} {ds' : List D} {vs' : List V} (lw : ∀ r vs, RdL K F H r vs → RdL K F (upd H b (.lst vs')) r vs) (r' : RdL K F (upd H b (.lst vs')) ds' vs') {as : List Addr} : ∀ {rows : List (List D)} {j : Nat}, as.Nodup → as[j]? = some b → RowsR K F H as rows → RowsR K F (upd H b (.lst vs')) as (rows.set j ds') := by
  induction as with
  | nil => intro rows j _ e _; simp at e
  | cons c as ih =>
    rintro rows j nd e ⟨r0, rest, vs, rfl, h1, h2, h3⟩
    have nc := (List.nodup_cons.mp nd).1
    cases j with
    | zero =>
      have e : c = b := by simpa using e
      subst e
      refine ⟨ds', rest, vs', rfl, upd_same, r', ?_⟩
      exact RowsR.keep lw as rest (fun d hd ws q => (upd_ne fun (z : d = c) => nc (z ▸ hd)).trans q) h3
    | succ j =>
      have e : as[j]? = some b := by simpa using e
      have hb : b ∈ as := List.mem_of_getElem? e
      refine ⟨r0, rest.set j ds', vs, rfl, (upd_ne fun (z : c = b) => nc (z ▸ hb)).trans h1, lw _ _ h2, ih (List.nodup_cons.mp nd).2 e h3⟩
theorem Rel.wrOwn2 (R : Rel K C F O ρ σ H) {i j : Nat} {a b : Addr} {as : List Addr} {rows : List (List D)} {xs : List V} {ds' : List D} {vs' : List V} (hi : ρ[i]? = some (.own2 rows)) (hσ : σ[i]? = some (some (.ref a))) (ha : a ∈ O i) (hb : ∀ b ∈ as, b ∈ O i) (nd : (a :: as).Nodup) (hl : H a = some (.lst (as.map V.ref))) (r : RowsR K F H as rows)
    (hj : as[j]? = some b) (hbl : H b = some (.lst xs)) (r' : RdL K F H ds' vs') : Rel K C F O (ρ.set i (.own2 (rows.set j ds'))) σ (upd H b (.lst vs')) := by
  have hm : b ∈ as := List.mem_of_getElem? hj
  obtain ⟨nf, n1, n2, n3, _, _⟩ := R.oo i b (hb b hm)
  have lo : Loose (.lst xs) := .inl ⟨_, rfl⟩
  have R' : Rel K C F O (ρ.set i .un) σ H := by
    refine ⟨by rw [List.length_set]; exact R.ln, R.dk, R.tb, R.fz, R.kp, R.up, R.nw, fun j s e => ?_, R.oo, R.dj⟩
    rcases get_set e with ⟨rfl, _, rfl⟩ | ⟨_, e⟩
    · exact True.intro
    · exact R.sl j s e
  have R2 : Rel K C F O (ρ.set i .un) σ (upd H b (.lst vs')) := R'.wr0 hbl lo (.inl ⟨_, rfl⟩) nf n1 n2 n3 fun j s e => by
    rcases get_set e with ⟨rfl, _, rfl⟩ | ⟨hj, e⟩
    · exact True.intro
    · exact (R.sl j s e).wr (i := j) hbl lo nf fun z => R.dj i j (Ne.symm hj) b (hb b hm) z
  have lw := FSt.wr (F := F) (u := .lst vs') hbl lo nf
  refine ⟨by rw [List.length_set]; exact R.ln, R2.dk, R2.tb, R2.fz, R2.kp, R2.up, R2.nw, fun j s e => ?_, R2.oo, R2.dj⟩
  rcases get_set e with ⟨rfl, _, rfl⟩ | ⟨hj', e⟩
  · exact ⟨a, as, hσ, ha, hb, nd, (upd_ne fun (z : a = b) => (List.nodup_cons.mp nd).1 (z ▸ hm)).trans hl, RowsR.set (fun _ _ q => q.fst lw) (r'.fst lw) (List.nodup_cons.mp nd).2 hj r⟩
  · exact R2.sl j s (by rw [List.getElem?_set_ne (Ne.symm hj')]; exact e)
/-- several loose places are frozen -/
theorem Rel.freezeS (L : List Addr) : ∀ {F : Addr → Prop}, Rel K C F O ρ σ H → (∀ a ∈ L, a ≠ C.q.p ∧ a ≠ C.q.l ∧ Nn C.H0 a ∧ H a ≠ none ∧ (∀ ps, H a ≠ some (.tbl ps)) ∧ ∀ i, a ∉ O i) → ∃ F' : Addr → Prop, (∀ a, F a → F' a) ∧ (∀ a ∈ L, F' a) ∧ Rel K C F' O ρ σ H := by
  induction L with
  | nil => intro F R _; exact ⟨F, fun _ h => h, fun a h => (by cases h), R⟩
  | cons a L ih =>
    intro F R hx
    obtain ⟨h1, h2, h3, h4, h5, h6⟩ := hx a List.mem_cons_self
    obtain ⟨F', g1, g2, g3⟩ := ih (R.freeze h1 h2 h3 h4 h5 h6) fun b hb => hx b (List.mem_cons_of_mem _ hb)
    exact ⟨F', fun b hb => g1 b (.inl hb), fun b hb => by
      rcases List.mem_cons.mp hb with rfl | hb
      · exact g1 _ (.inr rfl)
      · exact g2 b hb, g3⟩
theorem RowsR.froz {F : Addr → Prop} {as : List Addr} : ∀ {rows : List (List D)}, (∀ b ∈ as, F b) → RowsR K F H as rows → RdL K F H (rows.map .list) (as.map V.ref) := by
  induction as with
  | nil => intro rows _ h; rw [show rows = [] from h]; exact rfl
  | cons c as ih =>
    rintro rows hf ⟨r0, rest, vs, rfl, h1, h2, h3⟩
    exact ⟨.ref c, as.map V.ref, rfl, ⟨c, vs, rfl, hf c List.mem_cons_self, h1, h2⟩, ih (fun b hb => hf b (List.mem_cons_of_mem _ hb)) h3⟩
theorem Rel.freezeOwn2 (R : Rel K C F O ρ σ H) {i : Nat} {rows : List (List D)} (hi : ρ[i]? = some (.own2 rows)) : ∃ F' O', FSt F F' H H ∧ Rel K C F' O' (ρ.set i (.val (.list (rows.map .list)))) σ H := by
  obtain ⟨a, as, e, ha, hb, nd, hl, r⟩ := R.sl i _ hi
  have hm : ∀ b ∈ a :: as, b ∈ O i := fun b h => by
    rcases List.mem_cons.mp h with rfl | h
    · exact ha
    · exact hb b h
  have R1 : Rel K C F (putO O i []) (ρ.set i .un) σ H := by
    refine ⟨by rw [List.length_set]; exact R.ln, R.dk, R.tb, R.fz, R.kp, R.up, R.nw, fun j s e => ?_, fun j b hb => ?_, fun j k hjk b hb hb' => ?_⟩
    · rcases get_set e with ⟨rfl, _, rfl⟩ | ⟨hj, e⟩
      · exact True.intro
      · have : putO O i [] j = O j := if_neg hj
        rw [this]
        exact R.sl j s e
    · unfold putO at hb
      split at hb
      · cases hb
      · exact R.oo j b hb
    · unfold putO at hb hb'
      split at hb
      · cases hb
      · split at hb'
        · cases hb'
        · exact R.dj j k hjk b hb hb'
  obtain ⟨F', g1, g2, R2⟩ := R1.freezeS (a :: as) fun b h => by
    obtain ⟨_, h1, h2, h3, h4, h5⟩ := R.oo i b (hm b h)
    refine ⟨h1, h2, h3, h4, h5, fun j z => ?_⟩
    unfold putO at z
    split at z
    · cases z
    · rename_i hj
      exact R.dj i j (Ne.symm hj) b (hm b h) z
  refine ⟨F', putO O i [], ⟨g1, fun _ _ _ h => h, fun _ _ h => h, fun _ _ _ h => h⟩, ?_⟩
  refine ⟨by rw [List.length_set]; exact R.ln, R2.dk, R2.tb, R2.fz, R2.kp, R2.up, R2.nw, fun j s e' => ?_, R2.oo, R2.dj⟩
  rcases get_set e' with ⟨rfl, _, rfl⟩ | ⟨hj, e'⟩
  · refine ⟨_, e, a, as.map V.ref, rfl, g2 a List.mem_cons_self, hl, ?_⟩
    exact RowsR.froz (fun b hb => g2 b (List.mem_cons_of_mem _ hb)) (RowsR.keep (fun _ _ q => RdL.keep g1 (fun _ _ z => z) (fun _ _ _ z => z) _ _ q) as rows (fun _ _ _ z => z) r)
  · exact R2.sl j s (by rw [List.getElem?_set_ne (Ne.symm hj)]; exact e')
end
def sFreeze2 (i : Nat) (t : TSD) : TSD := fun D ρ => match ρ[i]? with
  | some (.own2 rows) => t D (ρ.set i (.val (.list (rows.map .list))))
  | _ => False
def sStore2 (i : Nat) (te tk tl : TED) : TSD := fun D ρ => match ρ[i]? with
  | some (.own2 rows) => te ρ fun d => tk ρ fun k => isI k fun k => ∃ j r, ixN rows.length k = some j ∧ rows[j]? = some r ∧ tl ρ fun l => isI l fun l => ∃ m, ixN r.length l = some m ∧ D.nx (ρ.set i (.own2 (rows.set j (r.set m d))))
  | _ => False
section
variable {X : Cx} {C : Ct} {i : Nat} {x : Str} {e ek el : Expr} {te tk tl : TED} {t : TSD} {sts : List Stmt} {pos p p1 p2 p3 : Pos}
theorem pssd_freeze2 (i : Nat) (h : PSDs X C sts t) : PSDs X C sts (sFreeze2 i t) := by
  refine ⟨fun D D' ρ l k => ?_, pss_imp h.run fun D σ H ⟨F, O, ρ, R, q⟩ => ?_⟩
  · unfold sFreeze2 at k ⊢
    split at k
    · exact h.mono _ _ _ l k
    · exact k.elim
  · unfold sFreeze2 at q
    split at q
    · rename_i ds es
      obtain ⟨F', O', s, R'⟩ := R.freezeOwn2 es
      exact ⟨F', O', _, R', h.mono _ _ _ (dEnds_le s) q⟩
    · exact q.elim
/-- own[k][l] = e -/
theorem psd_store2 (i : Nat) (he : PD X C e te) (hk : PD X C ek tk) (hl : PD X C el tl) (hN : X.N[i]? = some x := by rfl) (hv : Vis X.env.scope x := by first | exact Or.inl rfl | exact Or.inr (Or.inl rfl) | exact Or.inr (Or.inr rfl)) (hd : (x == ("__debug__" : Str)) = false := by decide)
    (hcd : (x == ("__classdict__" : Str)) = false := by decide) (hp : PlainIx ek := by exact fun _ _ => rfl)
    (ha : ∀ v, assign (.Subscript (.Subscript (.Name x p) ek p1) el p2) X.env v = (do
      let ov ← holding [v] (eval (.Subscript (.Name x p) ek p1) X.env)
      let iv ← holding [v, ov] (eval el X.env)
      standAt p2
      holding [v, ov, iv] (setItem ov iv v)
      release [v, ov, iv] []) := by intro _; rfl)
    (hs : swapsWithSole [.Subscript (.Subscript (.Name x p) ek p1) el p2] e pos.line X.env = pure false := by rfl) (hw : swappedStores [.Subscript (.Subscript (.Name x p) ek p1) el p2] e X.env = pure none := by rfl)
    (h1 : (assignEach [.Subscript (.Subscript (.Name x p) ek p1) el p2] X.env).map (·.2) = [assign (.Subscript (.Subscript (.Name x p) ek p1) el p2) X.env] := by rfl) :
    PSD X C (.Assign [.Subscript (.Subscript (.Name x p) ek p1) el p2] e pos) (sStore2 i te tk tl) := by
  refine ⟨fun D D' ρ l h => ?_, ps_imp (ps_asg he.run (pg_sub (pe_ix ix_seq (pe_var hN hv hd hcd) hk.run hp) hl.run set_list ha) hs hw h1) fun D σ H ⟨F, O, ρ, R, q⟩ => ?_⟩
  · unfold sStore2 at h ⊢
    split at h
    · exact he.mono _ _ _ (fun d h => hk.mono _ _ _ (fun k h => mono_isI (fun k ⟨j, r, h1, h2, h⟩ => ⟨j, r, h1, h2, hl.mono _ _ _ (fun m h => mono_isI (fun m ⟨m', h3, h4⟩ => ⟨m', h3, l.nx _ h4⟩) h) h⟩) h) h) h
    · exact h.elim
  · unfold sStore2 at q
    split at q
    · rename_i rows es
      obtain ⟨a, as0, e1, ha, _, _, _, _⟩ := R.sl i _ es
      refine ⟨F, O, ρ, R, he.mono _ _ _ (fun d k v H1 F1 s1 R1 r1 => ?_) q⟩
      refine ⟨.ref a, e1, F1, O, ρ, R1, hk.mono _ _ _ (fun kd k2 u H2 F2 s2 R2 r2 => ?_) k⟩
      obtain ⟨n, rfl, j, row, hj, hrow, k3⟩ := rdd_isI r2 k2
      obtain ⟨a', as, e1', ha', hb', nd, hl2, r⟩ := R2.sl i _ es
      have ea : a' = a := by rw [e1] at e1'; cases e1'; rfl
      subst ea
      have hlen := r.len
      obtain ⟨b, vs, eb, hbl, rb⟩ := r.get hrow
      have ez : L2.atI (as.map V.ref) n = some (.ref b) := by
        unfold L2.atI
        rw [List.length_map, hlen, hj]
        simp [eb]
      refine .inl ⟨a', as.map V.ref, n, .ref b, rfl, rfl, SqL.of hl2, ez, F2, O, ρ, R2, hl.mono _ _ _ (fun m k4 w H3 F3 s3 R3 r3 => ?_) k3⟩
      obtain ⟨m, rfl, m', g3, k5⟩ := rdd_isI r3 k4
      have nb : b ≠ C.q.p ∧ b ≠ C.q.l := let z := R2.oo i b (hb' b (List.mem_of_getElem? eb)); ⟨z.2.1, z.2.2.1⟩
      have hbl3 : H3 b = some (.lst vs) := s3.kp.kp b _ hbl nb.1 nb.2 (fun ps z => nomatch z)
      have na : a' ≠ C.q.p ∧ a' ≠ C.q.l := let z := R2.oo i a' ha'; ⟨z.2.1, z.2.2.1⟩
      have hl3 : H3 a' = some (.lst (as.map V.ref)) := s3.kp.kp a' _ hl2 na.1 na.2 (fun ps z => nomatch z)
      have r3' := r.stpR R2 s3 fun c hc => let z := R2.oo i c (hb' c hc); ⟨z.2.1, z.2.2.1⟩
      have rb3 := rb.stpR R2 s3
      refine ⟨b, vs, m, m', rfl, rfl, hbl3, by rw [rb3.len]; exact g3, ?_⟩
      exact k5 F3 O σ _ (((FSt.of R s1).trans (FSt.of R1 s2)).trans (FSt.of R2 s3) |>.trans (FSt.wr hbl3 (.inl ⟨_, rfl⟩) (R3.oo i b (hb' b (List.mem_of_getElem? eb))).1)) (R3.wrOwn2 es e1' ha' hb' nd hl3 r3' eb hbl3 (rb3.set m' (r1.stpR R1 (s2.trans s3))))
    · exact q.elim
end
end DL

namespace DL
open PySem PySem.Spec PyProof.Rows L2

/-! ### comprehensions over what is frozen or own -/
structure FeedC (K : PySem.W.Frag) (C : Ct) (J : It) (ds : List D) (F : Addr → Prop) (H : Hp) : Prop where
  go : ∀ i, i < ds.length → ∀ {F' O ρ σ H'}, Stp C.q F F' H H' → Rel K C F' O ρ σ H' → J.go i H'
  stop : ∀ i, ds.length ≤ i → ∀ {F' O ρ σ H'}, Stp C.q F F' H H' → Rel K C F' O ρ σ H' → J.stop i H'
  yld : ∀ i d, ds[i]? = some d → ∀ {F' O ρ σ H'}, Stp C.q F F' H H' → Rel K C F' O ρ σ H' → ∀ x H'', J.yld i H' x H'' → Stp C.q F' F' H' H'' ∧ Rel K C F' O ρ σ H'' ∧ Rdd K F' H'' d x
def liftIC (K : PySem.W.Frag) (C : Ct) (t : TID) : TI := fun σ H Q => ∃ F O ρ, Rel K C F O ρ σ H ∧ t ρ fun ds => ∀ J H' F', Stp C.q F F' H H' → Rel K C F' O ρ σ H' → FeedC K C J ds F' H' → Q J H'
structure DIC (X : Cx) (C : Ct) (tg iter : Expr) (t : TID) : Prop where
  mono : ∀ ρ (P P' : List D → Prop), (∀ d, P d → P' d) → t ρ P → t ρ P'
  run : PI X tg iter (liftIC X.K C t)
theorem DIC.of {X : Cx} {C : Ct} {tg iter : Expr} {t : TID} (h : DI X C tg iter t) : DIC X C tg iter t :=
  ⟨h.mono, pi_imp h.run fun σ H Q ⟨F, O, ρ, R, q⟩ => ⟨F, O, ρ, R, h.mono _ _ _ (fun ds k J H' F' s R' fd => k J H' F' s R' ⟨fun i hi _ _ _ _ _ s' R2 => fd.go i hi (FSt.of R' s') R2, fun i hi _ _ _ _ _ s' R2 => fd.stop i hi (FSt.of R' s') R2, fun i d e _ _ _ _ _ s' R2 => fd.yld i d e (FSt.of R' s') R2⟩) q⟩⟩
/-- a list that may be own -/
theorem dic_lst {X : Cx} {C : Ct} {tg e : Expr} {te : TED} (h : PO X C e te) : DIC X C tg e (iL te) := by
  refine ⟨fun ρ P P' k => h.mono _ _ _ fun d h => by cases d <;> first | exact h.elim | exact k _ h, pi_imp (pi_list h.run) fun σ H Q ⟨F, O, ρ, R, q⟩ => ⟨F, O, ρ, R, h.mono _ _ _ (fun d k v H' F' s R' r => ?_) q⟩⟩
  cases d <;> first | exact k.elim | skip
  obtain ⟨a, vs, e, fa, hl, r⟩ := r
  have na : a ≠ C.q.p ∧ a ≠ C.q.l := by
    rcases fa with fa | ⟨i, fa⟩
    · exact ⟨(R'.fz a fa).1, (R'.fz a fa).2.1⟩
    · exact ⟨(R'.oo i a fa).2.1, (R'.oo i a fa).2.2.1⟩
  have st : ∀ {F2 : Addr → Prop} {H2 : Hp}, Stp C.q F' F2 H' H2 → H2 a = some (.lst vs) := fun s2 => s2.kp.kp a _ hl na.1 na.2 (fun ps z => nomatch z)
  refine ⟨a, e, ⟨vs, SqL.of hl⟩, k _ H' F' s R' ⟨fun i hi F2 O2 ρ2 σ2 H2 s2 R2 => ?_, fun i hi F2 O2 ρ2 σ2 H2 s2 R2 => ?_, fun i d e F2 O2 ρ2 σ2 H2 s2 R2 x H'' y => ?_⟩⟩
  · have : i < vs.length := by rw [r.len]; exact hi
    exact ⟨vs, vs[i], SqL.of (st s2), List.getElem?_eq_getElem this⟩
  · exact ⟨vs, SqL.of (st s2), by rw [r.len]; exact hi⟩
  · obtain ⟨e', y⟩ := y
    subst e'
    have z := y vs (SqL.of (st s2))
    obtain ⟨u, hu, hr⟩ := r.get e
    rw [hu] at z; cases z
    exact ⟨Stp.refl _ _ _, R2, hr.stpR R' s2⟩
theorem comp_impC {K : PySem.W.Frag} {C : Ct} {ti : TID} {tt : TTD} {te : TED} (g : Tgt) (own : List (Str × Nat)) (hi : ∀ ρ (P P' : List D → Prop), (∀ d, P d → P' d) → ti ρ P → ti ρ P') (hv : ∀ i ∈ g.ixs, i ∈ own.map (·.2)) (mt : MonoT tt) (me : MonoE te) :
    MonoE (dComp ti g tt te (own.map (·.2))) ∧ ∀ σ H Q, lift (rF K) K C (dComp ti g tt te (own.map (·.2))) σ H Q → tLc (liftIC K C ti) (gTgt K g) (liftT K C tt) (lift (rE K) K C te) (own.map (·.2)) σ H Q := by
  refine ⟨fun ρ P P' k => hi _ _ _ fun ds => compD_mono mt me ds [] P P' k, fun σ H Q ⟨F, O, ρ, R, q⟩ => ⟨F, O, ρ, R, hi _ _ _ (fun ds k J H1 F1 s1 R1 fd D hD => ?_) q⟩⟩
  obtain ⟨n1, n2, n3, n4, n5⟩ := R1.np (Nn.of hD)
  have hD0 : Nn H D := s1.kp.free (Nn.of hD)
  refine ⟨fun i m H' => m = ds.length - i ∧ i ≤ ds.length ∧ ∃ F' acc vs, Stp C.q F F' H H' ∧ Stp C.q F1 F' H1 H' ∧ Rel K C F' O ρ σ H' ∧ H' D = some (.lst vs) ∧ ¬ F' D ∧ RdL K F' H' acc vs ∧
    compD g tt te (wipeD ρ (own.map (·.2))) (ds.drop i) acc (fun d => ∀ v H' F', Stp C.q F F' H H' → Rel K C F' O ρ σ H' → rF K F' O H H' d v → Q v H'), ⟨ds.length, rfl, Nat.zero_le _, F1, [], [], ?_, ?_, R1.new hD, upd_same, n4, rfl, k⟩, ?_⟩
  · exact s1.trans (Stp.new hD)
  · exact Stp.new hD
  rintro i m H' ⟨rfl, hile, F', acc, vs, sS, sF, R', hl, nf, ra, k'⟩
  by_cases hlt : i < ds.length
  · refine .inr ⟨fd.go i hlt sF R', fun H2 => ∃ m', m' < ds.length - i ∧ (m' = ds.length - (i + 1) ∧ i + 1 ≤ ds.length ∧ ∃ F' acc vs, Stp C.q F F' H H2 ∧ Stp C.q F1 F' H1 H2 ∧ Rel K C F' O ρ σ H2 ∧ H2 D = some (.lst vs) ∧ ¬ F' D ∧ RdL K F' H2 acc vs ∧
      compD g tt te (wipeD ρ (own.map (·.2))) (ds.drop (i + 1)) acc (fun d => ∀ v H' F', Stp C.q F F' H H' → Rel K C F' O ρ σ H' → rF K F' O H H' d v → Q v H')), fun H2 z => z, fun x H'' y => ?_⟩
    obtain ⟨s2, R2, r2⟩ := fd.yld i _ (List.getElem?_eq_getElem hlt) sF R' x H'' y
    rw [List.drop_eq_getElem_cons hlt, compD] at k'
    have fwd : ∀ {F5 : Addr → Prop} {H5 : Hp}, Stp C.q F' F5 H' H5 → Rel K C F5 O ρ σ H5 → H5 D = some (.lst vs) ∧ ¬ F5 D := fun {F5 H5} s5 R5 =>
      ⟨s5.kp.kp D _ hl n1 n2 (fun ps z => nomatch z), fun z => (s5.nw D z).elim nf fun n => n.no hl (fun ps z => nomatch z)⟩
    refine tgt_do (t := g) (R2.wipe (own.map (·.2))) r2 k' ?_
    intro ρ3 σ3 b3 R3 k3
    refine ⟨?_, ?_⟩
    · rw [b3.wipe _ hv]
      clear b3 k3 R3
      -- wiping twice
      have b4 : But (own.map (·.2)) σ (L2.wipe σ (own.map (·.2))) := by
        refine ⟨wipe_length _ _, fun j hj => ?_⟩
        have : ∀ ws : List Nat, j ∉ ws → (L2.wipe σ ws)[j]? = σ[j]? := by
          intro ws
          induction ws with
          | nil => intro _; rfl
          | cons w ws ih => intro h; unfold L2.wipe; rw [List.getElem?_set_ne (fun e => h (by rw [e]; exact List.mem_cons_self)), ih (fun z => h (List.mem_cons_of_mem _ z))]
        exact this _ hj
      exact b4.wipe _ fun _ h => h
    -- the frame of the block: back to the frame of the def
    have back : ∀ {F5 : Addr → Prop} {H5 : Hp}, Stp C.q F' F5 H'' H5 → Rel K C F5 O ρ3 σ3 H5 → Rel K C F5 O ρ σ H5 := fun {F5 H5} s5 R5 =>
      R2.step s5 R5.dk R5.tb fun a ha _ => R5.fz a ha
    refine ⟨F', O, ρ3, R3, mt _ _ _ (fun b k4 H5 F5 s5 R5 => ?_) k3⟩
    have R5' := back s5 R5
    cases b with
    | false =>
      simp only [Bool.false_eq_true, if_false] at k4 ⊢
      obtain ⟨z1, z2⟩ := fwd (s2.trans s5) R5'
      exact ⟨ds.length - (i + 1), by omega, rfl, hlt, F5, acc, vs, sS.trans (s2.trans s5), sF.trans (s2.trans s5), R5', z1, z2, ra.stpR R' (s2.trans s5), k4⟩
    | true =>
      simp only [if_true] at k4 ⊢
      refine ⟨F5, O, ρ3, R5, me _ _ _ (fun d k6 v H6 F6 s6 R6 r6 => ?_) k4⟩
      have R6' := back (s5.trans s6) R6
      have st : Stp C.q F' F6 H' H6 := s2.trans (s5.trans s6)
      obtain ⟨z1, z2⟩ := fwd st R6'
      have ra6 := ra.stpR R' st
      have lw : FSt F6 F6 H6 (upd H6 D (.lst (vs ++ [v]))) := FSt.wr z1 (.inl ⟨_, rfl⟩) z2
      refine ⟨vs, z1, by rw [ra6.len]; exact k6.1, ds.length - (i + 1), by omega, rfl, hlt, F6, acc ++ [d], vs ++ [v], ?_, ?_, R6'.wr z1 (.inl ⟨_, rfl⟩) (.inl ⟨_, rfl⟩) z2 n1 n2 n3 n5, upd_same, z2, (RdL.append (es := [d]) (us := [v]) ra6 ⟨v, [], rfl, r6, rfl⟩).fst lw, k6.2⟩
      · have s7 := sS.trans st
        exact ⟨⟨fun b o e h1 h2 h3 => (upd_ne fun (z : b = D) => hD0.no (by rw [← z]; exact e) h3).trans (s7.kp.kp b o e h1 h2 h3), fun b o e h => by
          by_cases z : b = D
          · exact absurd (hD0.no (by rw [← z]; exact e) h) id
          · rw [upd_ne z]; exact s7.kp.th b o e h⟩, s7.up, s7.nw⟩
      · have s7 := sF.trans st
        exact ⟨⟨fun b o e h1 h2 h3 => (upd_ne fun (z : b = D) => (Nn.of hD).no (by rw [← z]; exact e) h3).trans (s7.kp.kp b o e h1 h2 h3), fun b o e h => by
          by_cases z : b = D
          · exact absurd ((Nn.of hD).no (by rw [← z]; exact e) h) id
          · rw [upd_ne z]; exact s7.kp.th b o e h⟩, s7.up, s7.nw⟩
  · have e : ds.drop i = [] := List.drop_eq_nil_of_le (by omega)
    rw [e] at k'
    exact .inl ⟨fd.stop i (by omega) sF R', k' _ H' F' sS R' ⟨D, vs, rfl, hD0, nf, n5, hl, ra⟩⟩
theorem pf_compC {X : Cx} {C : Ct} {elt tg iter : Expr} {ifs : List Expr} {scope : Scope} {pos : Pos} {ti : TID} {tt : TTD} {te : TED} (g : Tgt) (own : List (Str × Nat)) (hc : X.calm = true) (hN : X.N.Nodup) (hi : DIC X C tg iter ti) (ok : BlkOk X.N X.env.scope scope own)
    (hv : ∀ i ∈ g.ixs, i ∈ own.map (·.2))
    (hg : ∀ (s : Shared) (H : Hp) (A : Addr) (cl : List (Str × Addr)) (fp : List Addr), PG (X.blk s H scope (compEnvC scope cl A X.env) fp) tg (gTgt X.K g))
    (ht : ∀ (s : Shared) (H : Hp) (A : Addr) (cl : List (Str × Addr)) (fp : List Addr), DTs (X.blk s H scope (compEnvC scope cl A X.env) fp) C ifs tt)
    (he : ∀ (s : Shared) (H : Hp) (A : Addr) (cl : List (Str × Addr)) (fp : List Addr), PD (X.blk s H scope (compEnvC scope cl A X.env) fp) C elt te) (hs : ∀ x, foldedSetIterable iter X.env x = pure x := by intro _; rfl) :
    PF X C (.ListComp elt [⟨tg, iter, ifs, 0⟩] scope pos) (dComp ti g tt te (own.map (·.2))) := by
  have mt : MonoT tt := (ht X.s_0 (fun _ => none) 0 [] []).mono
  have me : MonoE te := (he X.s_0 (fun _ => none) 0 [] []).mono
  obtain ⟨m, im⟩ := comp_impC (K := X.K) (C := C) g own hi.mono hv mt me
  exact ⟨m, pe_imp (pe_lc (te := lift (rE X.K) X.K C te) (tt := liftT X.K C tt) hc hN hi.run ok hg (fun s H A cl fp => (ht s H A cl fp).run) (fun s H A cl fp => (he s H A cl fp).run) hs) im⟩
/-- name = [..], on one line -/
theorem psd_setLcC {X : Cx} {C : Ct} (i : Nat) {y : Str} {py : Pos} {elt tg iter : Expr} {ifs : List Expr} {scope : Scope} {pos spos : Pos} {ti : TID} {tt : TTD} {te : TED} (g : Tgt) (own : List (Str × Nat)) (hc : X.calm = true) (hN : X.N.Nodup) (hi : DIC X C tg iter ti) (ok : BlkOk X.N X.env.scope scope own)
    (hv : ∀ i ∈ g.ixs, i ∈ own.map (·.2))
    (hg : ∀ (s : Shared) (H : Hp) (A : Addr) (cl : List (Str × Addr)) (fp : List Addr), PG (X.blk s H scope (compEnvC scope cl A X.env) fp) tg (gTgt X.K g))
    (ht : ∀ (s : Shared) (H : Hp) (A : Addr) (cl : List (Str × Addr)) (fp : List Addr), DTs (X.blk s H scope (compEnvC scope cl A X.env) fp) C ifs tt)
    (he : ∀ (s : Shared) (H : Hp) (A : Addr) (cl : List (Str × Addr)) (fp : List Addr), PD (X.blk s H scope (compEnvC scope cl A X.env) fp) C elt te) (hy : X.N[i]? = some y := by rfl) (hyl : X.env.scope.names.lookup y = some .local := by rfl)
    (hsw : swapsWith (.ListComp elt [⟨tg, iter, ifs, 0⟩] scope pos) (some (.Name y py)) spos.line X.env = pure true := by rfl) (hs : ∀ x, foldedSetIterable iter X.env x = pure x := by intro _; rfl) :
    PSD X C (.Assign [.Name y py] (.ListComp elt [⟨tg, iter, ifs, 0⟩] scope pos) spos) (sSet i (dComp ti g tt te (own.map (·.2)))) := by
  have mt : MonoT tt := (ht X.s_0 (fun _ => none) 0 [] []).mono
  have me : MonoE te := (he X.s_0 (fun _ => none) 0 [] []).mono
  obtain ⟨m, im⟩ := comp_impC (K := X.K) (C := C) g own hi.mono hv mt me
  refine ⟨fun D D' ρ l => m _ _ _ fun d => l.nx _, ps_imp (ps_setLc (te := lift (rE X.K) X.K C te) (tt := liftT X.K C tt) hc hN hy hyl hsw hi.run ok hg (fun s H A cl fp => (ht s H A cl fp).run) (fun s H A cl fp => (he s H A cl fp).run) hs) fun D σ H ⟨F, O, ρ, R, q⟩ => im _ _ _ (lift_ofF m ?_)⟩
  exact ⟨F, O, ρ, R, m _ _ _ (fun d k v H' F' s R' r => k F' O _ H' (FSt.of R s) (R'.setV i r)) q⟩
theorem psd_setLcFC {X : Cx} {C : Ct} (i : Nat) {y : Str} {py : Pos} {elt tg iter : Expr} {ifs : List Expr} {scope : Scope} {pos spos : Pos} {ti : TID} {tt : TTD} {te : TED} (g : Tgt) (own : List (Str × Nat)) (hc : X.calm = true) (hN : X.N.Nodup) (hi : DIC X C tg iter ti) (ok : BlkOk X.N X.env.scope scope own)
    (hv : ∀ i ∈ g.ixs, i ∈ own.map (·.2))
    (hg : ∀ (s : Shared) (H : Hp) (A : Addr) (cl : List (Str × Addr)) (fp : List Addr), PG (X.blk s H scope (compEnvC scope cl A X.env) fp) tg (gTgt X.K g))
    (ht : ∀ (s : Shared) (H : Hp) (A : Addr) (cl : List (Str × Addr)) (fp : List Addr), DTs (X.blk s H scope (compEnvC scope cl A X.env) fp) C ifs tt)
    (he : ∀ (s : Shared) (H : Hp) (A : Addr) (cl : List (Str × Addr)) (fp : List Addr), PD (X.blk s H scope (compEnvC scope cl A X.env) fp) C elt te) (hy : X.N[i]? = some y := by rfl) (hyl : X.env.scope.names.lookup y = some .local := by rfl)
    (hsw : swapsWith (.ListComp elt [⟨tg, iter, ifs, 0⟩] scope pos) (some (.Name y py)) spos.line X.env = pure true := by rfl) (hs : ∀ x, foldedSetIterable iter X.env x = pure x := by intro _; rfl) :
    PSD X C (.Assign [.Name y py] (.ListComp elt [⟨tg, iter, ifs, 0⟩] scope pos) spos) (sSetF i (dComp ti g tt te (own.map (·.2)))) := by
  have mt : MonoT tt := (ht X.s_0 (fun _ => none) 0 [] []).mono
  have me : MonoE te := (he X.s_0 (fun _ => none) 0 [] []).mono
  obtain ⟨m, im⟩ := comp_impC (K := X.K) (C := C) g own hi.mono hv mt me
  refine ⟨fun D D' ρ l => m _ _ _ fun d h => by cases d <;> first | exact l.nx _ h | exact h.elim, ps_imp (ps_setLc (te := lift (rE X.K) X.K C te) (tt := liftT X.K C tt) hc hN hy hyl hsw hi.run ok hg (fun s H A cl fp => (ht s H A cl fp).run) (fun s H A cl fp => (he s H A cl fp).run) hs) fun D σ H ⟨F, O, ρ, R, q⟩ => im _ _ _ ?_⟩
  refine ⟨F, O, ρ, R, m _ _ _ (fun d k v H' F' s R' r => ?_) q⟩
  cases d <;> first | exact r.elim | skip
  obtain ⟨a, vs, ea, n, h1, h2, h3, h4⟩ := r
  subst ea
  obtain ⟨n1, n2, n3, _, _⟩ := R.np n
  exact k F' _ _ H' (FSt.of R s) (R'.setF i h1 h2 n1 n2 n3 h3 h4)
/-- the names of built-ins that stand for themselves, more of them -/
structure Blt2 (mg : Str → Option Value) : Prop extends Blt mg where
  all : mg "all" = none
  any : mg "any" = none
  sum : mg "sum" = none
  sorted : mg "sorted" = none
end DL

namespace DL
open PySem PySem.Spec PyProof.Rows L2
/-! ### x is None, x is not None -/
def isNoneD : D → Bool
  | .none => true
  | _ => false
def gIsN2 (neg : Bool) : D → D → (D → Prop) → Prop
  | x, .none, P => P (.bool (if neg then !isNoneD x else isNoneD x))
  | _, _, _ => False
theorem mo_gIsN2 {neg : Bool} : Mo2 (gIsN2 neg) := fun x y P P' k h => by cases y <;> first | exact h.elim | exact k _ h
def rIsNo (neg : Bool) : R2 := fun x y H Q => y = .non ∧ Q (.bl (if neg then !decide (x = .non) else decide (x = .non))) H
section
variable {X : Cx} {C : Ct} {a : Expr} {ta : TED} {pos p : Pos} {j : Nat}
theorem op_isNo0 : OpR X (compareOp .Is) (rIsNo false) := fun pins s σ H x y v u Q I rx ry h => op_isN pins s σ H x y v u Q I rx ry h
theorem op_isNo1 : OpR X (compareOp .IsNot) (rIsNo true) := fun pins s σ H x y v u Q I rx ry h => op_notN pins s σ H x y v u Q I rx ry h
theorem none_of {K : PySem.W.Frag} {F : Addr → Prop} {O : Fps} {H₀ H : Hp} {d : D} {v : V} (r : rO K F O H₀ H d v) : decide (v = V.non) = isNoneD d := by
  cases d with
  | none => rw [show v = V.non from r]; rfl
  | bool b => rw [show v = V.bl b from r]; rfl
  | int i => rw [show v = V.int i from r]; rfl
  | str x => rw [show v = V.str x from r]; rfl
  | tuple ds => obtain ⟨b, vs, rfl, _⟩ := r; rfl
  | list ds => obtain ⟨b, vs, rfl, _⟩ := r; rfl
  | dict ds => obtain ⟨b, vs, rfl, _⟩ := r; rfl
theorem by_isN {neg : Bool} : By2 X C rE (rIsNo neg) (gIsN2 neg) := fun {F O ρ σ H x y v u Q} R rx ry h => by
  cases y <;> first | exact h.elim | skip
  refine ⟨ry, ?_⟩
  rw [none_of rx]
  exact h _ _ _ (Stp.refl _ _ _) R rfl
theorem pd_isN (ha : PO X C a ta) : PD X C (.Compare a [.Is] [.Constant .none j p] pos) (dBi (gIsN2 false) ta (tCD .none)) := pv_2 (fun h h' => pe_cmpR op_isNo0 h h' (nomark _)) by_isN mo_gIsN2 ha (PO.of pd_non)
theorem pd_isNo (ha : PO X C a ta) : PD X C (.Compare a [.IsNot] [.Constant .none j p] pos) (dBi (gIsN2 true) ta (tCD .none)) := pv_2 (fun h h' => pe_cmpR op_isNo1 h h' (nomark _)) by_isN mo_gIsN2 ha (PO.of pd_non)
theorem dt_isN (ha : PO X C a ta) : DT X C (.Compare a [.Is] [.Constant .none j p] pos) (tTestD (dBi (gIsN2 false) ta (tCD .none))) := dt_2 (fun h h' => pt_cmpR op_isNo0 h h' (nomark _)) by_isN mo_gIsN2 ha (PO.of pd_non)
theorem dt_isNo (ha : PO X C a ta) : DT X C (.Compare a [.IsNot] [.Constant .none j p] pos) (tTestD (dBi (gIsN2 true) ta (tCD .none))) := dt_2 (fun h h' => pt_cmpR op_isNo1 h h' (nomark _)) by_isN mo_gIsN2 ha (PO.of pd_non)
end
/-- told called with a lambda, all facts of told at hand -/
theorem pd_toldMF {X : Cx} {C : Ct} {x a en : Str} {st : Stmt} {L : List Cl} {s0 : Str} {cc PP : Addr} {k : Nat} {params : Arguments} {body : Expr} {scope : Scope} {tb : XP → TED} {p lpos pos : Pos} (T : ToldMF X.K X.mg x a en st L) (LF : LamF X.mg X.base C.q.w X.env.qual X.env.code cc PP) (hr : Room k X.A) (hk2 : 2 ≤ k)
    (hg : Gl X x) (hG : ∀ (g : Addr) (cdv : Value), LamX.GivesTo X [a, en] x (defScope st) g cdv (defBody st) a (X.env.qual ++ "<lambda>") (TTm X.K L s0)) (hva : Vis (defScope st) a) (LS : LamX.LamS X.env.scope scope) (hdef : defaultsOf params X.env = ([], []))
    (hbind : ∀ (q : Str) (cl : List (Str × Addr)) (pm cv ctv : Value), bindArgs (PySem.W.kla_fn "<lambda>" q params body scope cl pm cv ctv) ⟨[], []⟩ = pure [])
    (hbody : ∀ (A : Around) (outer : List Env) (s : Shared) (H : Hp) (E : XK) (f c' : Addr) (C' : Ct) (px : XP), C'.q = C.q → Room (k - 2) (A.deeper (LamX.lamEnv X scope s.heap.objs.size f c')) → XO (LamX.lamCx X A outer s H E scope f c') C' px (L2.CX X.prog X.w) E →
      PD (LamX.lamCx X A outer s H E scope f c') C' body (tb px)) (hxmo : XM tb) (hmo : ∀ px, MonoE (tb px))
    (hdb : (x == ("__debug__" : Str)) = false) (hd : (a == ("__debug__" : Str)) = false) (hcd : (a == ("__classdict__" : Str)) = false) :
    PD X C (.Call (.Name x p) [.Lambda params body scope lpos] [] pos) (tToldM tb L s0) := by
  obtain ⟨g, oc, od, kV, doc, pm, an, cdv, ct, osl, h1, h2, h3, h4, h5⟩ := T.ex
  exact pd_toldM (Ng := [a, en]) hg h1 h2 h3 h4 h5 T.sc rfl hva (hG g cdv) T.xm T.nd LF.tb LF.code LF.mem LF.uni (k := k - 2) (by rw [Nat.sub_add_cancel hk2]; exact hr) LS hdef hbind hbody hxmo hmo hdb hd hcd
end DL

namespace DL
open PySem PySem.Spec PyProof.Rows L2
/-! ### promises of defs, from the heap; the script ahead of the law (for any law) -/
section
variable {G : Around → Prop} {P : Program} {w : World} {K : PySem.W.Frag} {mg : Str → Option Value} {base : Heap} {k : Nat} {x : Str} {st : Stmt} {ps ks : List Str} {is : List Nat} {wd : Wd} {Fd : FD} {c : Addr}
theorem cal_of (D : Df K mg x st ps) (h : ∀ f fd, L2.Fun K x x st f fd → FnR G P w K mg base (L2.CX P w) k f fd ps (spD K wd Fd)) : Cal G P w K mg base k x ps wd Fd := by
  obtain ⟨f, fd, F, hm, hb⟩ := D.ex
  exact ⟨f, fd, h f fd F, hm, F.kp, hb⟩
theorem calC_of (D : DfC K mg x st ps c) (h : ∀ f fd, L2.Fun K x x st f fd → fd.code = .ref c → FnR G P w K mg base (L2.CX P w) k f fd ps (spD K wd Fd)) : Cal G P w K mg base k x ps wd Fd := by
  obtain ⟨f, fd, F, hm, hb, hc⟩ := D.ex
  exact ⟨f, fd, h f fd F hc, hm, F.kp, hb⟩
structure DfK (K : PySem.W.Frag) (mg : Str → Option Value) (x : Str) (st : Stmt) (ps ks : List Str) (is : List Nat) : Prop where
  ex : ∃ f fd, L2.Fun K x x st f fd ∧ mg x = some (.ref f) ∧ ∀ (s : Shared) (ws : List Value), ws.length = ks.length → BindsTo s fd ⟨[], ks.zip ws⟩ (ps.zip (pick is ws))
theorem calK_of (D : DfK K mg x st ps ks is) (h : ∀ f fd, L2.Fun K x x st f fd → FnR G P w K mg base (L2.CX P w) k f fd ps (spD K wd Fd)) : CalK G P w K mg base k x ps ks is wd Fd := by
  obtain ⟨f, fd, F, hm, hb⟩ := D.ex
  exact ⟨f, fd, h f fd F, hm, F.kp, hb⟩
theorem CalK.mono {G' : Around → Prop} {j : Nat} (c : CalK G P w K mg base j x ps ks is wd Fd) (h : j ≤ k) (g : ∀ A, G' A → G A) : CalK G' P w K mg base k x ps ks is wd Fd := by
  obtain ⟨f, fd, F, h1, h2, h3⟩ := c.ex
  exact ⟨f, fd, F.mono h g, h1, h2, h3⟩
end
theorem fnr_raw {G : Around → Prop} {P : Program} {w : World} {K : PySem.W.Frag} {mg : Str → Option Value} {base : Heap} {k : Nat} {f : Addr} {x qual : Str} {st : Stmt} {fd : FuncData} {N ps : List Str} {sp : Sp}
    (F : L2.Fun K x qual st f fd) (S : FnScope N ps (defScope st)) (hGd : ∀ A env, G A → G (A.deeper env)) (len : ∀ vs H Q E, sp vs H Q E → vs.length = ps.length)
    (hbody : ∀ (cdv : Value) (A : Around) (outer : List Env) (s : Shared) (H : Hp) (vs : List V) (Q : VK) (E : XK), Room k (A.deeper (envOfC qual (defScope st) s.heap.objs.size f cdv)) → G (A.deeper (envOfC qual (defScope st) s.heap.objs.size f cdv)) → sp vs H Q E →
      ∃ t, PSs (cxOf (L2.CX P w) P w K mg base N qual (defScope st) f cdv A outer s H E) (defBody st) t ∧ t { nx := fun _ H' => Q .non H', rt := Q } (L2.start N vs) H) :
    FnR G P w K mg base (L2.CX P w) (k + 1) f fd ps sp := by
  obtain ⟨oc, od, kV, doc, pm, an, cdv, ct, osl, rfl, lk, hcd⟩ := F.ex
  exact ⟨len, fun A outer s H args us vs Q E hr hg e0 hb r hsp => LamX.run_ofS (N := N) (ps := ps) (us := us) (vs := vs) lk hcd S hr e0 hb r (len _ _ _ _ hsp) fun hr' => hbody cdv A outer s H vs Q E hr' (hGd _ _ hg) hsp⟩
theorem pss_any {X : Cx} {sts : List Stmt} {I : Type} {t : I → TS} (h : ∀ i, PSs X sts (t i)) : PSs X sts (fun D σ H => ∃ i, t i D σ H) :=
  ⟨fun pins s σ H D J ⟨i, q⟩ => (h i).run pins s σ H D J q⟩
def spLaw (K : PySem.W.Frag) (T : List (Addr × Str)) : Sp := fun vs H Q _ => ∃ (a : Addr) (ns : List Int), vs = [.ref a] ∧ SqL K H a (ns.map V.int) ∧ ns.length ≤ 63 ∧ (∀ p ∈ T, H p.1 = some (.tbl #[])) ∧ (∃ o φ, H sysModules = some (.frz o (.ext φ))) ∧ ∀ H', Q (.bl true) H'
end DL

namespace DL
open PySem PySem.Spec PyProof.Rows L2
/-! ### built-ins of two ints: min, max -/
def gMin2 : D → D → (D → Prop) → Prop
  | .int i, .int j, P => P (.int (if j < i then j else i))
  | _, _, _ => False
def gMax2 : D → D → (D → Prop) → Prop
  | .int i, .int j, P => P (.int (if j > i then j else i))
  | _, _, _ => False
theorem mo_gMin2 : Mo2 gMin2 := fun x y P P' k h => by cases x <;> first | exact h.elim | (cases y <;> first | exact h.elim | exact k _ h)
theorem mo_gMax2 : Mo2 gMax2 := fun x y P P' k h => by cases x <;> first | exact h.elim | (cases y <;> first | exact h.elim | exact k _ h)
section
variable {X : Cx} {C : Ct} {a b e : Expr} {ta tb te : TED} {p pos : Pos}
theorem pv_b2 {Rr : PySem.W.Frag → RR} [RRc Rr] {id : String} {r : List V → Hp → VK → Prop} {g : D → D → (D → Prop) → Prop} {x : Str} (hc : CallR X (.builtin id) r) (h : By2 X C Rr (fun v u => r [v, u]) g) (mg : Mo2 g) (hg : Gl X x) (hm : X.mg x = none) (hv : bootBuiltins x = some (.builtin id)) (ha : PO X C a ta) (hb : PO X C b tb)
    (hn : x ≠ "__name__" := by decide) (hdb : (x == ("__debug__" : Str)) = false := by decide) (hs : starEach [a, b] X.env = (false, eval a X.env) :: starEach [b] X.env := by rfl) (hs2 : starEach [b] X.env = (false, eval b X.env) :: starEach [] X.env := by rfl) : PV Rr X C (.Call (.Name x p) [a, b] [] pos) (dBi g ta tb) :=
  pv_2 (fun h h' => pe_imp (pe_callB hc hg hm hv (pa_cons h (pa_cons h' pa_nil hs2) hs) hn hdb hs (by rw [hs2]; rfl)) fun σ H Q q => q) h mg ha hb
theorem pd_min2 (hg : Gl X "min") (hm : X.mg "min" = none) (ha : PO X C a ta) (hb : PO X C b tb) (hc : X.calm = true := by rfl) (hs : starEach [a, b] X.env = (false, eval a X.env) :: starEach [b] X.env := by rfl) (hs2 : starEach [b] X.env = (false, eval b X.env) :: starEach [] X.env := by rfl) : PD X C (.Call (.Name "min" p) [a, b] [] pos) (dBi gMin2 ta tb) :=
  pv_b2 (call_min2 hc) (fun {F O ρ σ H x y v u Q} R rx ry h => by
    cases x <;> first | exact h.elim | (cases y <;> first | exact h.elim | skip)
    rename_i i j
    exact ⟨i, j, by rw [show v = _ from rx, show u = _ from ry], h _ _ _ (Stp.refl _ _ _) R rfl⟩) mo_gMin2 hg hm (by decide +kernel) ha hb (hs := hs) (hs2 := hs2)
theorem pd_max2 (hg : Gl X "max") (hm : X.mg "max" = none) (ha : PO X C a ta) (hb : PO X C b tb) (hc : X.calm = true := by rfl) (hs : starEach [a, b] X.env = (false, eval a X.env) :: starEach [b] X.env := by rfl) (hs2 : starEach [b] X.env = (false, eval b X.env) :: starEach [] X.env := by rfl) : PD X C (.Call (.Name "max" p) [a, b] [] pos) (dBi gMax2 ta tb) :=
  pv_b2 (call_max2 hc) (fun {F O ρ σ H x y v u Q} R rx ry h => by
    cases x <;> first | exact h.elim | (cases y <;> first | exact h.elim | skip)
    rename_i i j
    exact ⟨i, j, by rw [show v = _ from rx, show u = _ from ry], h _ _ _ (Stp.refl _ _ _) R rfl⟩) mo_gMax2 hg hm (by decide +kernel) ha hb (hs := hs) (hs2 := hs2)
/-! list(range(n)) -/
def gRangeL : D → (D → Prop) → Prop
  | .int n, P => (0 ≤ n ∧ n ≤ 16777216) ∧ P (.list (rangeD 0 1 n.toNat))
  | _, _ => False
theorem mo_gRangeL : Mo1 gRangeL := fun x P P' k h => by cases x <;> first | exact h.elim | exact ⟨h.1, k _ h.2⟩
theorem pf_rangeL {p2 q : Pos} (hg : Gl X "list") (hm : X.mg "list" = none) (hg2 : Gl X "range") (hm2 : X.mg "range" = none) (he : PO X C e te) (hc : X.calm = true := by rfl) (hs : starEach [e] X.env = (false, eval e X.env) :: starEach [] X.env := by rfl)
    (hs2 : starEach [Expr.Call (.Name "range" p2) [e] [] q] X.env = (false, eval (Expr.Call (.Name "range" p2) [e] [] q) X.env) :: starEach [] X.env := by rfl) :
    PF X C (.Call (.Name "list" p) [.Call (.Name "range" p2) [e] [] q] [] pos) (dUn gRangeL te) :=
  pv_1 (r := fun v H Q => ∃ n, v = .int n ∧ RgOk 0 n ∧ ∀ q, H q = none → Q (.ref q) (upd H q (.lst (rgV 0 n)))) (fun h => pe_imp (pe_listRg hc hg hm (prg_1 hg2 hm2 h hs) hs2) fun σ H Q q => q)
    (fun {F O ρ σ H x v Q} R rx h => by
      cases x <;> first | exact h.elim | skip
      rename_i n
      obtain ⟨⟨h1, h2⟩, q⟩ := h
      refine ⟨n, rx, RgOk.of_le (by omega) h2 (by omega) h1, fun q0 hn => ?_⟩
      have e : rgV 0 n = ((List.range n.toNat).map fun (i : Nat) => (0 : Int) + (i : Int) * 1).map V.int := by
        unfold rgV
        rw [List.map_map, Int.sub_zero]
        refine List.map_congr_left fun i _ => ?_
        show V.int (0 + (i : Int)) = V.int (0 + (i : Int) * 1)
        rw [Int.mul_one]
      rw [e]
      obtain ⟨s, R', r'⟩ := new_lst R (RdL.ints _) hn
      have e2 : (((List.range n.toNat).map fun (i : Nat) => (0 : Int) + (i : Int) * 1).map PyData.int) = rangeD 0 1 n.toNat := by
        unfold rangeD
        rw [List.map_map]
        rfl
      rw [e2] at r'
      exact q _ _ _ s R' r') mo_gRangeL he
end
theorem mo_tup {tl : TLD} (h : MonoL tl) : MonoE (dTup tl) := fun ρ P P' k => h _ _ _ fun ds z => ⟨z.1, k _ z.2⟩
end DL

namespace DL
open PySem PySem.Spec PyProof.Rows L2
/-! ### set(t), sorted(set(t)): t a tuple of ints -/
def rSetT (K : PySem.W.Frag) (w : World) : List V → Hp → VK → Prop := fun xs H Q => ∃ (l : Addr) (ns : List Int), xs = [.ref l] ∧ SqT K H l (ns.map V.int) ∧ ns.length ≤ 60 ∧
  ∀ a S c, H a = none → (∀ j : Int, S j = true ↔ j ∈ ns) → c ≤ ns.length → Q (.ref a) (upd H a (SetO w a S c))
section
variable {X : Cx} {C : Ct} {a b e : Expr} {ta tb te : TED} {p pos p2 q : Pos}
theorem cr_setT (hc : X.calm = true) : CallR X (.type "set") (rSetT X.K X.w) := by
  intro pins s σ H xs us Q I r h
  obtain ⟨l, ns, rfl, hq, hl, q⟩ := h
  rw [Vals.ref1 r]
  obtain ⟨its, rv, pt, hz⟩ := I.tuple hq
  have hi : IntsAre its.toArray.toList ns := ints_of_vals rv
  have hn : H s.heap.objs.size = none := I.hok.fresh (Nat.le_refl _)
  refine call_set_tupI ns (I.ok.hd hc) (show s.heap.IsTuple l its.toArray from pt) hi (by unfold scanBound; omega) fun h' tk c R1 hcn k => ?_
  refine ⟨.ref s.heap.objs.size, upd H s.heap.objs.size (SetO X.w s.heap.objs.size (fun j => decide (j ∈ ns)) c), I.laid (t' := tk) k (Nat.le_refl _) (setO_new R1), rfl, q _ _ c hn (fun j => by simp) hcn⟩
def rSortSet (K : PySem.W.Frag) (w : World) : V → Hp → VK → Prop := fun v H Q => rSetT K w [v] H fun y H1 => rSortedSet w [y] H1 Q
def gSortSet : D → (D → Prop) → Prop
  | .tuple ds, P => ∃ ns : List Int, ds = ns.map .int ∧ ns.length ≤ 60 ∧ ∀ out : List Int, out.Pairwise (· < ·) → (∀ k, k ∈ out ↔ k ∈ ns) → P (.list (out.map .int))
  | _, _ => False
theorem mo_gSortSet : Mo1 gSortSet := fun x P P' k h => by cases x <;> first | exact h.elim | exact ⟨h.choose, h.choose_spec.1, h.choose_spec.2.1, fun n a b => k _ (h.choose_spec.2.2 n a b)⟩
theorem pf_sortSet (hg : Gl X "sorted") (hm : X.mg "sorted" = none) (hg2 : Gl X "set") (hm2 : X.mg "set" = none) (he : PO X C e te) (hc : X.calm = true := by rfl) (hs : starEach [e] X.env = (false, eval e X.env) :: starEach [] X.env := by rfl)
    (hs2 : starEach [Expr.Call (.Name "set" p2) [e] [] q] X.env = (false, eval (Expr.Call (.Name "set" p2) [e] [] q) X.env) :: starEach [] X.env := by rfl) :
    PF X C (.Call (.Name "sorted" p) [.Call (.Name "set" p2) [e] [] q] [] pos) (dUn gSortSet te) :=
  pv_1 (r := rSortSet X.K X.w) (fun h => pe_imp (pe_callB (cr_sortedSet hc) hg hm (by decide +kernel) (pa_cons (pe_callTy (cr_setT hc) hg2 hm2 PyProof.Rows.boot_set (pa_cons h pa_nil hs) (he := hs)) pa_nil hs2) (he := hs2)) fun σ H Q q => q)
    (fun {F O ρ σ H x v Q} R rx h => by
      cases x <;> first | exact h.elim | skip
      obtain ⟨ns, rfl, hl, q⟩ := h
      obtain ⟨l, vs, rfl, t, r⟩ := rx
      rw [r.ints_inv] at t
      refine ⟨l, ns, rfl, t, hl, fun a S c hn hS hcn => ?_⟩
      refine ⟨a, S, c, rfl, upd_same, by omega, fun out p h1 h2 h3 hp => ?_⟩
      have R1 : Rel X.K C F O ρ σ (upd H a (SetO X.w a S c)) := R.new hn
      obtain ⟨s, R', r'⟩ := new_lst R1 (RdL.ints out) hp
      exact q out h1 (fun k => (h2 k).trans (hS k)) _ _ _ ((Stp.new hn).trans s) R' (RRc.back (R := rF) (Stp.new (q := C.q) (F := F) hn).kp r')) mo_gSortSet he
end
structure Blt3 (mg : Str → Option Value) : Prop extends Blt2 mg where
  min : mg "min" = none
  set : mg "set" = none
end DL

namespace DL
open PySem PySem.Spec PyProof.Rows L2
/-! ### t == (), t != () -/
def gNilT (neg : Bool) : D → (D → Prop) → Prop
  | .tuple ds, P => P (.bool (if neg then !ds.isEmpty else ds.isEmpty))
  | _, _ => False
theorem mo_gNilT {neg : Bool} : Mo1 (gNilT neg) := fun x P P' k h => by cases x <;> first | exact h.elim | exact k _ h
def gNilT2 (neg : Bool) : D → D → (D → Prop) → Prop
  | x, .tuple [], P => gNilT neg x P
  | _, _, _ => False
theorem mo_gNilT2 {neg : Bool} : Mo2 (gNilT2 neg) := fun x y P P' k h => by
  cases y <;> first | exact h.elim | skip
  rename_i ds
  cases ds <;> first | exact h.elim | exact mo_gNilT x P P' k h
def rEqNilT (K : PySem.W.Frag) (neg : Bool) : R2 := fun x y H Q => ∃ a b xs, x = .ref a ∧ y = .ref b ∧ SqT K H a xs ∧ SqT K H b [] ∧ Q (.bl (if neg then !xs.isEmpty else xs.isEmpty)) H
section
variable {X : Cx} {C : Ct} {e a b : Expr} {te ta tb : TED} {p p2 pos : Pos}
theorem nil_all {n : Nat} (h : n = 0) : ((List.range (min n 0)).all (fun _ => true)) = true := by simp
theorem op_eqNilT (hu : X.A.units + 64 < cLine) : OpR X (compareOp .Eq) (rEqNilT X.K false) := by
  intro pins s σ H x y v u Q I rx ry h
  obtain ⟨a, b, xs, rfl, rfl, ha, hb, q⟩ := h
  cases rx
  cases ry
  obtain ⟨its, rv, p1, hz⟩ := I.tuple ha
  obtain ⟨its2, rv2, p2, hz2⟩ := I.tuple hb
  cases rv2
  refine SeqAt.eq_tupleAt (e := fun _ => true) (show s.heap.IsTuple a its.toArray from p1) (show s.heap.IsTuple b #[] from p2) (by omega) (fun j h1 h2 => absurd h2 (by simp)) ⟨.bl xs.isEmpty, H, I, ?_, q⟩
  have e : ((List.range (min its.toArray.size (#[] : Array Value).size)).all (fun _ => true) && its.toArray.size == (#[] : Array Value).size) = xs.isEmpty := by
    cases rv <;> simp
  rw [e]
  exact rfl
theorem op_neNilT (hu : X.A.units + 64 < cLine) : OpR X (compareOp .NotEq) (rEqNilT X.K true) := by
  intro pins s σ H x y v u Q I rx ry h
  obtain ⟨a, b, xs, rfl, rfl, ha, hb, q⟩ := h
  cases rx
  cases ry
  obtain ⟨its, rv, p1, hz⟩ := I.tuple ha
  obtain ⟨its2, rv2, p2, hz2⟩ := I.tuple hb
  cases rv2
  refine SeqAt.RcNeAt.tuples (e := fun _ => true) (show s.heap.IsTuple a its.toArray from p1) (show s.heap.IsTuple b #[] from p2) (by omega) (fun j h1 h2 => absurd h2 (by simp)) X.prog X.w X.xe _ ⟨.bl (!xs.isEmpty), H, I, ?_, q⟩
  have e : ((List.range (min its.toArray.size (#[] : Array Value).size)).all (fun _ => true) && its.toArray.size == (#[] : Array Value).size) = xs.isEmpty := by
    cases rv <;> simp
  rw [e]
  exact rfl
theorem by_nilT {neg : Bool} : By2 X C rE (rEqNilT X.K neg) (gNilT2 neg) := fun {F O ρ σ H x y v u Q} R rx ry h => by
  cases y <;> first | exact h.elim | skip
  rename_i ds
  cases ds <;> first | exact h.elim | skip
  cases x <;> first | exact h.elim | skip
  rename_i ds
  obtain ⟨a, vs, rfl, t, r⟩ := rx
  obtain ⟨b, us, rfl, t2, r2⟩ := ry
  have e2 : us = [] := r2
  subst e2
  refine ⟨a, b, vs, rfl, rfl, t, t2, ?_⟩
  have e : vs.isEmpty = ds.isEmpty := by
    have := r.len
    cases vs <;> cases ds <;> first | rfl | (simp at this)
  rw [e]
  exact h _ _ _ (Stp.refl _ _ _) R rfl
theorem PV.conv {Rr : PySem.W.Frag → RR} {t t' : TED} (h : PV Rr X C e t) (m : MonoE t') (i : ∀ ρ P, t' ρ P → t ρ P) : PV Rr X C e t' := ⟨m, pe_imp h.run fun σ H Q ⟨F, O, ρ, R, q⟩ => ⟨F, O, ρ, R, i _ _ q⟩⟩
theorem nilT_imp {neg : Bool} (ha : PO X C a ta) (ρ : List Slot) (P : D → Prop) (h : dUn (gNilT neg) ta ρ P) : dBi (gNilT2 neg) ta (dTup lNil) ρ P := ha.mono _ _ _ (fun x q => ⟨Nat.zero_le _, q⟩) h
theorem mo_nilT {neg : Bool} (ha : PO X C a ta) : MonoE (dUn (gNilT neg) ta) := fun ρ P P' k => ha.mono _ _ _ fun d => mo_gNilT _ _ _ k
theorem pd_eqNilT {x1} (hu : X.A.units + 64 < cLine) (ha : PO X C a ta) : PD X C (.Compare a [.Eq] [.Tuple [] x1 p2] pos) (dUn (gNilT false) ta) := PV.conv (pv_2 (fun h h' => pe_cmpR (op_eqNilT hu) h h' (nomark _)) by_nilT mo_gNilT2 ha (PO.of (pd_tup ds_nil))) (mo_nilT ha) (nilT_imp ha)
theorem pd_neNilT {x1} (hu : X.A.units + 64 < cLine) (ha : PO X C a ta) : PD X C (.Compare a [.NotEq] [.Tuple [] x1 p2] pos) (dUn (gNilT true) ta) := PV.conv (pv_2 (fun h h' => pe_cmpR (op_neNilT hu) h h' (nomark _)) by_nilT mo_gNilT2 ha (PO.of (pd_tup ds_nil))) (mo_nilT ha) (nilT_imp ha)
theorem DT.conv {t t' : TTD} (h : DT X C e t) (m : MonoT t') (i : ∀ ρ P, t' ρ P → t ρ P) : DT X C e t' := ⟨m, pt_imp h.run fun σ H Q ⟨F, O, ρ, R, q⟩ => ⟨F, O, ρ, R, i _ _ q⟩⟩
theorem dt_eqNilT {x1} (hu : X.A.units + 64 < cLine) (ha : PO X C a ta) : DT X C (.Compare a [.Eq] [.Tuple [] x1 p2] pos) (tTestD (dUn (gNilT false) ta)) := DT.conv (dt_2 (fun h h' => pt_cmpR (op_eqNilT hu) h h' (nomark _)) by_nilT mo_gNilT2 ha (PO.of (pd_tup ds_nil))) (fun ρ P P' k => mo_nilT ha _ _ _ fun d => mono_isB k) fun ρ P => nilT_imp ha ρ _
theorem dt_neNilT {x1} (hu : X.A.units + 64 < cLine) (ha : PO X C a ta) : DT X C (.Compare a [.NotEq] [.Tuple [] x1 p2] pos) (tTestD (dUn (gNilT true) ta)) := DT.conv (dt_2 (fun h h' => pt_cmpR (op_neNilT hu) h h' (nomark _)) by_nilT mo_gNilT2 ha (PO.of (pd_tup ds_nil))) (fun ρ P P' k => mo_nilT ha _ _ _ fun d => mono_isB k) fun ρ P => nilT_imp ha ρ _
end
end DL

/-! ### sorted(range(n), key=lambda p: ..): a lambda of one parameter, called by the sort -/
namespace SK
open PySem PySem.Spec PyProof.Rows L2 LamX
structure LamS1 (sc scope : Scope) (p : Str) : Prop where
  kind : scope.kind = .function
  co : scope.isCoroutine = false
  gen : scope.isGenerator = false
  par : scope.names.lookup p = some .local
  own : ∀ y ∈ scope.names, y.2 ≠ .cell ∧ (y.2 = .local → y.1 = p)
  free : ∀ y ∈ scope.names, y.2 = .free → sc.names.lookup y.1 = some .cell ∨ sc.names.lookup y.1 = some .free
def lamSB1 (sc scope : Scope) (p : Str) : Bool :=
  decide (scope.kind = .function) && !scope.isCoroutine && !scope.isGenerator && decide (scope.names.lookup p = some .local) && scope.names.all fun y => !decide (y.2 = .cell) && (!decide (y.2 = .local) || decide (y.1 = p)) && (!decide (y.2 = .free) || decide (sc.names.lookup y.1 = some .cell) || decide (sc.names.lookup y.1 = some .free))
theorem lamS1_by {sc scope : Scope} {p : Str} (h : lamSB1 sc scope p = true) : LamS1 sc scope p := by
  unfold lamSB1 at h
  simp only [Bool.and_eq_true, Bool.or_eq_true, Bool.not_eq_true', decide_eq_true_eq, decide_eq_false_iff_not, List.all_eq_true] at h
  obtain ⟨⟨⟨⟨h1, h2⟩, h3⟩, h5⟩, h4⟩ := h
  refine ⟨h1, h2, h3, h5, fun y hy => ⟨(h4 y hy).1.1, fun e => (h4 y hy).1.2.elim (absurd e) id⟩, fun y hy e => ?_⟩
  rcases (h4 y hy).2 with (z | z) | z
  · exact absurd e z
  · exact .inl z
  · exact .inr z
theorem LamS1.has {X : Cx} {scope : Scope} {p : Str} (L : LamS1 X.env.scope scope p) (ok : X.Ok) : ∀ y ∈ scope.names, y.2 = .free → ∃ c, X.env.cells.lookup y.1 = some c := fun y hy e => by
  rcases L.free y hy e with k | k
  · exact ok.has _ (.inl k)
  · exact ok.has _ (.inr k)
def lamCx1 (X : Cx) (p : Str) (A : Around) (outer : List Env) (s : Shared) (H : Hp) (E : XK) (scope : Scope) (f c' : Addr) : Cx := { lamCx X A outer s H E scope f c' with N := X.N ++ [p] }
section
variable {X : Cx} {pins : List (Addr × Obj)} {σ : L2.St} {H HZ : Hp} {s s1 : Shared}
theorem lam_start1 {A : Around} {E : XK} {scope : Scope} {p : Str} {f c' : Addr} {h₁ : Heap} {tk : Nat} {x : V} {u : Value} (I : Inv X pins σ H s) (L : LamS1 X.env.scope scope p) (hp : p ∉ X.N) (e0 : Env0 X.prog X.w X.K X.mg X.base A X.stack s H) (hd : A.handled = none)
    (rx : RelV x u) (hns : h₁.Ns s.heap.objs.size fun y => ([(p, u)] : List (Str × Value)).reverse.lookup y) (kp : ∀ b o, s.heap.get? b = some o → h₁.get? b = some o) :
    Inv (lamCx1 X p A X.stack s H E scope f c') [] (σ ++ [some x]) H { s with heap := h₁, toks := tk } := by
  have hfree := L.has I.ok
  have cm : ∀ {y c}, (cloFrom X.env.cells scope.names []).lookup y = some c → X.env.cells.lookup y = some c := fun {y c} e => by
    rcases cloFrom_mem (PySem.mem_of_lookup e) with hm | ⟨h1, h2⟩
    · cases hm
    · obtain ⟨c1, hc⟩ := hfree _ h1 rfl
      have hc : X.env.cells.lookup y = some c1 := hc
      have e2 : c = c1 := by
        rw [h2, hc] <;> rfl
      rw [e2]
      exact hc
  have look : ∀ {y}, scope.names.lookup y = some .free → ∃ c, (cloFrom X.env.cells scope.names []).lookup y = some c := fun {y} hl => by
    have hy : (y, NameKind.free) ∈ scope.names := PySem.mem_of_lookup hl
    exact mem_lookup (cloFrom_has (cells := X.env.cells) (acc := []) hy)
  have cellK : ∀ {c : Addr} {v : Option Value}, H c = none → s.heap.IsCell c v → h₁.IsCell c v := fun {c v} n ⟨o, ho, hd⟩ => ⟨_, kp _ _ ho, hd⟩
  have noA : ∀ b : Addr, b ∉ (lamCx1 X p A X.stack s H E scope f c').ex := fun b z => absurd (show b ∈ ([] : List Addr) from z) (by simp)
  refine ⟨⟨e0.mod, L.kind, rfl, rfl, Nat.le_refl _, fun y z c e1 e2 => I.ok.inj y z c (cm e1) (cm e2), fun y hy => ?_, fun y c z _ => ?_, fun _ => hd, Around.frames_deeper e0.frames, .inr ⟨rfl, rfl⟩, fun b z => absurd z (noA b), e0.bs, e0.bsz, fun b _ _ => noA b,
      fun b z => absurd z (noA b), e0.funs, e0.frf⟩,
    rfl, e0.bare, Un.kept kp, ⟨_, hns, fun i y v e1 e2 e3 => ?_⟩, fun y c e => ?_, e0.hok.fresh (Nat.le_refl _), fun y c e => ?_, fun q hq => absurd (show q ∈ ([] : List (Addr × Obj)) ++ [] from hq) (by simp), e0.hok.kept kp, ?_⟩
  · have hy : scope.names.lookup y = some .cell ∨ scope.names.lookup y = some .free := hy
    rcases hy with hy | hy
    · exact absurd rfl (L.own _ (PySem.mem_of_lookup hy)).1
    · exact look hy
  · have z : false = true := z
    cases z
  · have e3 : Vis scope y := e3
    have e1 : (X.N ++ [p])[i]? = some y := e1
    by_cases hi : i < X.N.length
    · rw [List.getElem?_append_left hi] at e1
      rw [List.getElem?_append_left (by rw [I.len]; exact hi)] at e2
      have hyN : y ∈ X.N := List.mem_of_getElem? e1
      rcases e3 with k | k | k
      · have := (L.own _ (PySem.mem_of_lookup k)).2 rfl
        have this : y = p := this
        rw [this] at hyN
        exact absurd hyN hp
      · exact absurd rfl (L.own _ (PySem.mem_of_lookup k)).1
      · obtain ⟨m, hn, hl⟩ := I.loc
        have hvis : Vis X.env.scope y := (L.free _ (PySem.mem_of_lookup k) rfl).elim (fun k => .inr (.inl k)) (fun k => .inr (.inr k))
        obtain ⟨w', r, q⟩ := hl i y v e1 e2 hvis
        obtain ⟨c2, h2⟩ := look k
        refine ⟨w', r, .inr ⟨.inr k, c2, h2, ?_⟩⟩
        have c1 := cm h2
        rcases q with ⟨k', _⟩ | ⟨_, c3, e', z⟩
        · have k' : X.env.scope.names.lookup y = some .local := k'
          rcases L.free _ (PySem.mem_of_lookup k) rfl with k2 | k2 <;> rw [show X.env.scope.names.lookup y = _ from k2] at k' <;> cases k'
        · rw [c1] at e'
          cases e'
          exact cellK (I.freeC y _ c1) z
    · have hl : (X.N ++ [p]).length = X.N.length + 1 := by simp
      have hi2 : i < (X.N ++ [p]).length := (List.getElem?_eq_some_iff.mp e1).1
      have hi3 : i = X.N.length := by omega
      subst hi3
      rw [List.getElem?_append_right (Nat.le_refl _), Nat.sub_self] at e1
      have e2' : (σ ++ [some x])[σ.length]? = some (some v) := by rw [I.len]; exact e2
      rw [List.getElem?_append_right (Nat.le_refl _), Nat.sub_self] at e2'
      have hy : p = y := Option.some.inj e1
      have hx : x = v := Option.some.inj (Option.some.inj e2')
      subst hy hx
      refine ⟨u, rx, .inl ⟨L.par, ?_⟩⟩
      show ([(p, u)] : List (Str × Value)).reverse.lookup p = some u
      simp [List.lookup]
  · obtain ⟨w', z⟩ := I.cell y c (cm e)
    exact ⟨w', cellK (I.freeC y c (cm e)) z⟩
  · obtain ⟨v, o, ho, hd⟩ := I.cell y c (cm e)
    exact I.freeC y c (cm e)
  · show (σ ++ [some x]).length = (X.N ++ [p]).length
    rw [List.length_append, List.length_append, I.len]
    rfl
/-- the lambda called, wherever -/
theorem lam_call1 {A : Around} {scope : Scope} {params : Arguments} {body : Expr} {p : Str} {f c' : Addr} {pm ctv : Value} {k : Nat} {u : Value} {x : V} {tb : TE} {Q : VK}
    (I : Inv X pins σ H s) (L : LamS1 X.env.scope scope p) (hp : p ∉ X.N) (e0 : Env0 X.prog X.w X.K X.mg X.base A X.stack s H)
    (hf : s.heap.get? f = some (PySem.W.kla_obj "<lambda>" (X.env.qual ++ "<lambda>") params body scope (cloFrom X.env.cells scope.names []) pm c' ctv)) (hc : H c' = some (CodeO c' (X.env.qual ++ "<lambda>")))
    (hbind : bindArgs (PySem.W.kla_fn "<lambda>" (X.env.qual ++ "<lambda>") params body scope (cloFrom X.env.cells scope.names []) pm (.ref c') ctv) ⟨[u], []⟩ = pure [(p, u)])
    (hr : Room (k + 1) A) (rx : RelV x u) (hbody : Room k (A.deeper (lamEnv X scope s.heap.objs.size f c')) → PE (lamCx1 X p A X.stack s H (fun _ _ _ => False) scope f c') body tb) (ht : tb (σ ++ [some x]) H Q) :
    wpAny (model X.prog X.w) A (call (.ref f) [u]) (fun v s' => CE X.stack X.prog X.w H s Q v s') (fun _ _ => False) s := by
  obtain ⟨⟨oc, vs, t, hoc, hdc, hvc⟩, _, _⟩ := I.hok c' _ hc
  have rc : codeAny (model X.prog X.w) A (.call (.ref f) ⟨[u], []⟩) (CR (L2.CX X.prog X.w) X.stack X.prog X.w H s Q (fun _ _ _ => False)) s := by
    refine PySem.W.kla_callFunE hr.depth hf rfl L.co L.gen rfl ⟨c', oc, vs, t, rfl, hoc, hdc, hvc⟩ ?_
    rw [hbind]
    refine wpAny_pure (wpAny_newFunctionEnv (fun y hy => (L.own y hy).1) (fun y hy => by rw [List.mem_singleton.mp hy]; exact L.par) (fun h₁ hns hsb => ⟨I.nolimit.fresh _ hsb, ?_⟩) L.kind)
    show codeAny _ _ (.expr body (lamEnv X scope s.heap.objs.size f c')) _ _
    have kp : ∀ b o, s.heap.get? b = some o → h₁.get? b = some o := fun b o e => hsb.extBut b o (Nat.ne_of_lt (Heap.lt_size e)) (Heap.get?_push_of_some _ e)
    have J : Inv (lamCx1 X p A X.stack s H (fun _ _ _ => False) scope f c') [] (σ ++ [some x]) H { s with heap := h₁, toks := s.toks + ([(p, u)] : List (Str × Value)).length } :=
      lam_start1 I L hp e0 hr.hd rx hns kp
    refine PySem.W.kla_codeExpr (wpAny_mono ((hbody (hr.deeper _)).run [] _ _ H Q J ht) (fun v s' hq => ?_) fun e s' hq => hq)
    obtain ⟨w', H', J', rv, q⟩ := hq
    exact ⟨w', H', J'.os, J'.bare, J'.base, J'.hok, rv, q⟩
  refine wpAny_call (codeAny_mono rc fun r s' hq => ?_)
  cases r with
  | error e =>
    obtain ⟨_, _, _, _, _, _, _, _, _, _, _, _, z⟩ := (show L2.CX X.prog X.w X.stack H s (fun _ _ _ => False) e s' from hq)
    exact (show False from z)
  | ok fl =>
    cases fl with
    | ret u => exact hq
    | next => exact False.elim hq
    | brk => exact False.elim hq
    | cont => exact False.elim hq
end
/-! ### the sort -/
section
variable {prog : Program} {w : World} {A : Around} {E : Value → Shared → Prop} {s : Shared} {a kS : Addr} {vs : List Value} {kz : List Int} {keys : Array Value} {e e1 : Nat} {P : PySem.Fin → Shared → Prop}
theorem sk_tail {st : SortSt} (nk : s.heap.get? kS = some (seqObj "list" keys e)) (na : s.heap.get? a = some (seqObj "list" #[] e1)) (hka : kS ≠ a)
    (hk : IntsAre keys.toList kz) (hlen : kz.length = vs.length) (h64 : vs.length < 64) (hp : (arrOf st).Perm (keys.zip vs.toArray)) (hs : SortedTo (arrOf st) (arrOf st).size) (hfl : failedOf st = none)
    (h : ∀ h' out c, (∀ b o, b ∉ [kS, a] → s.heap.get? b = some o → h'.get? b = some o) → h'.get? a = some (seqObj "list" out c) → KskOut false kz vs out.toList → P (.done (.ret .none)) { s with heap := h', toks := s.toks }) :
    wpAny (model prog w) A (ksk_tail a false e1 (.ref kS) st) P E s := by
  have hsz : keys.size = vs.length := by
    have h1 := hk.length
    rw [Array.length_toList] at h1
    omega
  have hsz2 : (arrOf st).size = vs.length := by rw [hp.size_eq, Array.size_zip, hsz, List.size_toArray, Nat.min_self]
  have hout : ((arrOf st).map (·.2)).size = vs.length := by
    simp only [Array.size_map]; exact hsz2
  have s1 := Heap.SameBut.update s.heap kS (Obj.mapSeq fun _ => (#[] : Array Value))
  have na1 : (s.heap.update kS (Obj.mapSeq fun _ => (#[] : Array Value))).get? a = some (seqObj "list" #[] e1) := (s1.2 a hka.symm).trans na
  have s2 := Heap.SameBut.update (s.heap.update kS (Obj.mapSeq fun _ => (#[] : Array Value))) a (Obj.mapSeq fun _ => (arrOf st).map (·.2))
  obtain ⟨c2, hc2⟩ : ∃ c2, ((s.heap.update kS (Obj.mapSeq fun _ => (#[] : Array Value))).update a (Obj.mapSeq fun _ => (arrOf st).map (·.2))).get? a = some (seqObj "list" ((arrOf st).map (·.2)) c2) :=
    ⟨_, get?_update_seq na1 fun _ => (arrOf st).map (·.2)⟩
  unfold ksk_tail
  try dsimp only
  refine wpAny_bind (listUpdate_at nk rfl ?_ (by rw [hsz, sizeLine_eq]; omega) (Nat.zero_le _))
  refine wpAny_bind (wpAny_letGo ?_)
  refine wpAny_bind (seqEpoch_at na1 rfl ?_)
  refine wpAny_bind (listUpdate_at na1 rfl ?_ (Nat.zero_le _) (Nat.le_trans (Nat.le_of_eq hout) (by rw [sizeLine_eq]; omega)))
  rw [hfl]
  simp only [bne_self_eq_false, Bool.false_eq_true, if_false]
  refine wpAny_pure (h _ _ c2 (fun b o hb q => ?_) hc2 (ksk_out (b := false) hk hp hs))
  have h1 : b ≠ kS := fun z => hb (by rw [z]; exact .head _)
  have h2 : b ≠ a := fun z => hb (by rw [z]; exact .tail _ (.head _))
  exact (s2.2 b h2).trans ((s1.2 b h1).trans q)
theorem sk_end (nk : s.heap.get? kS = some (seqObj "list" keys e)) (na : s.heap.get? a = some (seqObj "list" #[] e1)) (hka : kS ≠ a)
    (hk : IntsAre keys.toList kz) (hlen : kz.length = vs.length) (h64 : vs.length < 64)
    (h : ∀ h' out c, (∀ b o, b ∉ [kS, a] → s.heap.get? b = some o → h'.get? b = some o) → h'.get? a = some (seqObj "list" out c) → KskOut false kz vs out.toList → P (.done (.ret .none)) { s with heap := h', toks := s.toks }) :
    wpAny (model prog w) A (ksk_end a false vs.toArray e1 (.ref kS) keys) P E s := by
  have hsz : keys.size = vs.length := by
    have h1 := hk.length
    rw [Array.length_toList] at h1
    omega
  have hzs : (keys.zip vs.toArray).size = vs.length := by rw [Array.size_zip, hsz, List.size_toArray, Nat.min_self]
  unfold ksk_end
  try dsimp only
  show wpAny (model prog w) A (do
    let kind ← if vs.toArray.size < 2 then pure general' else keyKind' keys
    let ((), s) ← (if vs.toArray.size < 2 then pure () else sortRuns').run (SortSt.mk' kind (keys.zip vs.toArray) #[] 7 none)
    ksk_tail a false e1 (.ref kS) s) P E s
  by_cases h2 : vs.toArray.size < 2
  · rw [if_pos h2, if_pos h2]
    refine wpAny_bind (wpAny_pure ?_)
    dsimp only
    rw [StateT.run_pure]
    refine wpAny_bind (wpAny_pure ?_)
    try dsimp only
    refine sk_tail (st := SortSt.mk' general' (keys.zip vs.toArray) #[] 7 none) nk na hka hk hlen h64 (Array.Perm.refl _) ?_ rfl h
    intro i j hij hj
    have hj2 : j < (keys.zip vs.toArray).size := hj
    rw [hzs] at hj2
    rw [List.size_toArray] at h2
    have : i = j := by omega
    subst this
    exact Int.le_refl _
  · rw [if_neg h2, if_neg h2]
    rw [List.size_toArray] at h2
    rw [ksk_kind hk (by rw [hsz]; omega)]
    refine wpAny_bind (wpAny_pure ?_)
    refine wpAny_bind (wpAny_mono (wpS_sortRuns (a₀ := keys.zip vs.toArray) (st := SortSt.mk' oneType' (keys.zip vs.toArray) #[] 7 none)
      (Q := fun _ st' => (arrOf st').Perm (keys.zip vs.toArray) ∧ failedOf st' = none ∧ SortedTo (arrOf st') (keys.zip vs.toArray).size)
      (ksk_intKeys hk) ⟨Array.Perm.refl _, rfl, rfl, rfl⟩ (by rw [hzs]; omega) (by rw [hzs]; exact h64) fun st' a1 a2 a3 => ⟨a1, a2, a3⟩) ?_ fun _ _ e => e)
    rintro ⟨⟨⟩, st'⟩ s' ⟨rfl, hp, hf, hs⟩
    try dsimp only
    exact sk_tail nk na hka hk hlen h64 hp (by rw [hp.size_eq]; exact hs) hf h
end
theorem Un.more {fs ex : List Addr} {H H1 : Hp} {h h1 h2 : Heap} {ch : List Addr} (u : Un fs ex H H1 h h1) (k : ∀ b o, b ∉ ch → h1.get? b = some o → h2.get? b = some o) (hc : ∀ b ∈ ch, h.get? b = none) : Un fs ex H H1 h h2 := by
  have ne : ∀ b o, h.get? b = some o → b ∉ ch := fun b o e z => by rw [hc b z] at e; cases e
  exact ⟨fun b o e n f x => k b o (ne b o e) (u.keep b o e n f x), fun b o e n f x => let ⟨sl, q⟩ := u.slot b o e n f x; ⟨sl, k b _ (ne b o e) q⟩, u.free, fun b o e x => let ⟨o', q⟩ := u.there b o e x; ⟨o', k b _ (ne b o e) q⟩, u.tups, u.frzs, u.tbls⟩
section
variable {X : Cx} {pins : List (Addr × Obj)} {σ : L2.St} {H : Hp} {s : Shared}
def rangeI (n : Nat) : List Int := (List.range n).map fun (i : Nat) => (i : Int)
theorem rangeI_len (n : Nat) : (rangeI n).length = n := by simp [rangeI]
theorem rangeI_get {n i : Nat} (h : i < n) : (rangeI n)[i]? = some (i : Int) := by simp [rangeI, h]
theorem out_ints {kz : List Int} {n : Nat} {vs out : List Value} (hv : IntsAre vs (rangeI n)) (h : KskOut false kz vs out) : ∃ ps : List (Int × Int), ps.Perm (kz.zip (rangeI n)) ∧ ps.Pairwise (fun a b => a.1 ≤ b.1) ∧ IntsAre out (ps.map (·.2)) := by
  obtain ⟨ps, h1, h2, h3⟩ := h
  refine ⟨ps.map fun p => (p.1, SrtO.iv p.2), ?_, ?_, ?_⟩
  · have e : (kz.zip vs).map (fun p => (p.1, SrtO.iv p.2)) = kz.zip (rangeI n) := by
      rw [← SrtO.iv_ints hv, List.zip_map_right]
      exact List.map_congr_left fun ⟨x, y⟩ _ => rfl
    rw [← e]
    exact h1.map _
  · rw [List.pairwise_map]
    exact h3
  · subst h2
    have hm : ∀ v ∈ ps.map Prod.snd, ∃ i t, v = Value.int i t := fun v hv' => by
      obtain ⟨p, hp, rfl⟩ := List.mem_map.mp hv'
      exact SrtO.ints_mem hv _ (List.of_mem_zip (h1.mem_iff.mp hp)).2
    have := SrtO.ints_iv hm
    rw [List.map_map] at this ⊢
    exact this
theorem run_sortKey {n : Nat} {r : Addr} {t u v : Tok} {fv : Addr} {fo : Obj} {kz : List Int} {Q : VK} (I : Inv X pins σ H s) (hh : X.A.handled = none) (hr : IsRange s.heap r 0 n 1 t u v) (hn : n ≤ 60) (hlen : kz.length = n) (hf : s.heap.get? fv = some fo) (hfn : H fv = none) (hfr : fv ∉ frs X.stack)
    (turn : ∀ (i : Nat) (k : Int), kz[i]? = some k → ∀ (s' : Shared) (t : Tok), Inv X pins σ H s' → s'.heap.get? fv = some fo → wpAny (model X.prog X.w) X.A.in1.in1 (call (.ref fv) [.int (i : Int) t]) (fun v s'' => CE X.stack X.prog X.w H s' (fun y H2 => y = .int k ∧ H2 = H) v s'') (fun _ _ => False) s')
    (q : ∀ (ps : List (Int × Int)) (p : Addr), ps.Perm (kz.zip (rangeI n)) → ps.Pairwise (fun a b => a.1 ≤ b.1) → H p = none → Q (.ref p) (upd H p (.lst ((ps.map (·.2)).map V.int)))) :
    wpAny (model X.prog X.w) X.A (call (.builtin "sorted") [.ref r] [(Str.ofString "key", .ref fv)]) (EP X pins σ Q) X.xe s := by
  have h60 : n ≤ sizeLine := by rw [sizeLine_eq]; omega
  refine call_function_entry_kw kind_sorted plain_sorted entry_sorted (ksk_s1 _ _) ?_
  unfold Builtin.«sorted»
  refine wpAny_bind (m := checkCount "sorted" 1 1 _) (wpAny_pure ?_)
  refine wpAny_bind (collect_range (n := n) (by exact hh) hr (small_one (by omega) (by omega) (by omega) (by omega)) (by rw [rangeSize_nat]; omega) (by omega) fun h1 tk acc k1 hacc => ?_)
  have hsz0 : acc.size = n := hacc.1
  have erg : rgV 0 (n : Int) = (rangeI n).map V.int := by
    unfold rgV rangeI
    rw [List.map_map, Int.sub_zero, Int.toNat_natCast]
    refine List.map_congr_left fun i _ => ?_
    show V.int (0 + (i : Int)) = V.int (i : Int)
    rw [Int.zero_add]
  have hv : IntsAre acc.toList (rangeI n) := by
    have e := vals_rg (a := 0) (b := n) (acc := acc) (by rw [Int.sub_zero, Int.toNat_natCast]; exact hacc)
    rw [erg] at e
    exact ints_of_vals e
  have hvl : acc.toList.length = n := by rw [Array.length_toList]; exact hsz0
  generalize acc.toList = vs at *
  clear hacc
  have I1 : Inv X pins σ H { s with heap := h1, toks := tk } := I.kept k1
  have nofr : ∀ b, h1.objs.size ≤ b → b ∉ frs X.stack := fun b hb z => by
    rcases List.mem_cons.mp (I1.stkSub _ z) with e | e
    · have h1 := I1.lt
      rw [← e] at h1
      exact Nat.lt_irrefl _ (Nat.lt_of_lt_of_le h1 hb)
    · exact I1.nofs hb e
  refine wpAny_bind (wpAny_newList ?_ (by rw [hvl]; exact h60))
  have hoL : (h1.push (seqObj "list" vs.toArray 0)).get? h1.objs.size = some (seqObj "list" vs.toArray 0) := Heap.get?_push_size _ rfl
  refine wpAny_bind (wpAny_holding (wpAny_call_entry_kw slot_list_sort ⟨_, hoL, rfl⟩ entry_list_sort ?_ (ksk_l1 _ _)))
  show wpAny (model X.prog X.w) X.A.in1.in1 (Builtin.«list.sort» ⟨[.ref h1.objs.size], [(Str.ofString "key", .ref fv)]⟩) _ _ _
  rw [ksk_t1]
  unfold ksk_tree
  have sb := Heap.SameBut.update (h1.push (seqObj "list" vs.toArray 0)) h1.objs.size (Obj.mapSeq fun _ => (#[] : Array Value))
  obtain ⟨e1, ho1⟩ : ∃ e1, ((h1.push (seqObj "list" vs.toArray 0)).update h1.objs.size (Obj.mapSeq fun _ => (#[] : Array Value))).get? h1.objs.size = some (seqObj "list" #[] e1) := ⟨_, get?_update_seq hoL fun _ => #[]⟩
  have hG1 : ((h1.push (seqObj "list" vs.toArray 0)).update h1.objs.size (Obj.mapSeq fun _ => (#[] : Array Value))).objs.size = h1.objs.size + 1 := by rw [Heap.size_update, size_push']
  refine wpAny_bind (listItems_at hoL rfl ?_)
  refine wpAny_bind (listUpdate_at hoL rfl ?_ (by rw [List.size_toArray, hvl]; exact h60) (Nat.zero_le _))
  refine wpAny_bind (seqEpoch_at ho1 rfl ?_)
  refine wpAny_bind (wpAny_newTuple ?_ (by show vs.length ≤ _; rw [hvl]; exact h60))
  refine wpAny_bind (wpAny_newList ?_ (Nat.zero_le _))
  refine wpAny_holding ?_
  have kG : ∀ b o, h1.get? b = some o → ((((h1.push (seqObj "list" vs.toArray 0)).update h1.objs.size (Obj.mapSeq fun _ => (#[] : Array Value))).push (seqObj "tuple" vs.toArray 0)).push (seqObj "list" #[] 0)).get? b = some o := fun b o e =>
    Heap.get?_push_of_some _ (Heap.get?_push_of_some _ ((sb.2 b (Nat.ne_of_lt (Heap.lt_size e))).trans (Heap.get?_push_of_some _ e)))
  have hKs : (((h1.push (seqObj "list" vs.toArray 0)).update h1.objs.size (Obj.mapSeq fun _ => (#[] : Array Value))).push (seqObj "tuple" vs.toArray 0)).objs.size = h1.objs.size + 2 := by rw [size_push', hG1]
  have hDG := Heap.get?_push_of_some (seqObj "list" #[] 0) (Heap.get?_push_of_some (seqObj "tuple" vs.toArray 0) ho1)
  have hKG : ((((h1.push (seqObj "list" vs.toArray 0)).update h1.objs.size (Obj.mapSeq fun _ => (#[] : Array Value))).push (seqObj "tuple" vs.toArray 0)).push (seqObj "list" #[] 0)).get? (h1.objs.size + 2) = some (seqObj "list" #[] 0) := by
    rw [← hKs]; exact Heap.get?_push_size _ rfl
  show wpAny (model X.prog X.w) X.A.in1.in1 (ksk_rest h1.objs.size (.ref fv) false vs.toArray e1 (.ref (((h1.push (seqObj "list" vs.toArray 0)).update h1.objs.size (Obj.mapSeq fun _ => (#[] : Array Value))).push (seqObj "tuple" vs.toArray 0)).objs.size)) _ _ { s with heap := ((((h1.push (seqObj "list" vs.toArray 0)).update h1.objs.size (Obj.mapSeq fun _ => (#[] : Array Value))).push (seqObj "tuple" vs.toArray 0)).push (seqObj "list" #[] 0)), toks := tk }
  rw [hKs]
  generalize ((((h1.push (seqObj "list" vs.toArray 0)).update h1.objs.size (Obj.mapSeq fun _ => (#[] : Array Value))).push (seqObj "tuple" vs.toArray 0)).push (seqObj "list" #[] 0)) = G at *
  clear hKs hG1 ho1 sb hoL
  have hfG : G.get? fv = some fo := kG _ _ (k1 _ _ hf)
  have fvl : fv < h1.objs.size := Heap.lt_size (k1 _ _ hf)
  have nD : H h1.objs.size = none := I1.hok.fresh (Nat.le_refl _)
  have nK : H (h1.objs.size + 2) = none := I1.hok.fresh (by show h1.objs.size ≤ h1.objs.size + 2; omega)
  have hka : h1.objs.size + 2 ≠ h1.objs.size := by omega
  have fpD : FpOk X pins H h1.objs.size := I1.fpOk (Nat.le_refl _) nD
  have fpK : FpOk X pins H (h1.objs.size + 2) := I1.fpOk (by show h1.objs.size ≤ h1.objs.size + 2; omega) nK
  have sD : h1.get? h1.objs.size = none := Heap.get?_none_of_le (Nat.le_refl _)
  have sK : h1.get? (h1.objs.size + 2) = none := Heap.get?_none_of_le (by omega)
  have frD := nofr h1.objs.size (Nat.le_refl _)
  have frK := nofr (h1.objs.size + 2) (by omega)
  unfold ksk_rest
  refine wpAny_bind (wpAny_rule ?_)
  first
    | rw [List.forIn_toArray]
    | (rw [← Array.forIn_toList]; simp only [List.toList_toArray])
    | rw [← Array.forIn_toList]
  refine wpAny_bind (ksk_fold (fun i s' => Inv X pins σ H s' ∧ Un (frs X.stack) [] H H h1 s'.heap ∧ s'.os = s.os ∧ s'.heap.get? h1.objs.size = some (seqObj "list" #[] e1) ∧ s'.heap.get? fv = some fo ∧ ∃ kA e, s'.heap.get? (h1.objs.size + 2) = some (seqObj "list" kA e) ∧ IntsAre kA.toList (kz.take i)) vs 0 _
    ⟨I1.kept (t' := tk) kG, Un.kept kG, rfl, hDG, hfG, #[], 0, hKG, by simpa using IntsAre.nil⟩ ?step ?done)
  case step =>
    rintro j x s' hx ⟨J, un, os', hD, hF, kA, e, hK, hk⟩
    simp only [Nat.zero_add] at hk ⊢
    have hj : j < n := by rw [← hvl]; exact (List.getElem?_eq_some_iff.mp hx).1
    obtain ⟨t, rfl⟩ : ∃ t, x = Value.int (j : Int) t := by
      obtain ⟨t, e⟩ := PyProof.Rows.IntsAre.int_at hv j x hx
      refine ⟨t, ?_⟩
      rw [e, List.getD_eq_getElem?_getD, rangeI_get hj]
      rfl
    obtain ⟨k, hkj⟩ : ∃ k, kz[j]? = some k := ⟨_, List.getElem?_eq_getElem (by omega)⟩
    have hz : kA.size ≤ n := by
      have h1 := hk.length
      rw [Array.length_toList, List.length_take] at h1
      omega
    refine wpAny_bind (wpAny_attempt (wpAny_mono (turn j k hkj s' t J hF) (fun v s'' he => ?_) fun _ _ hF => hF.elim))
    obtain ⟨y, H2, os, bare, un2, hok, rv, ey, eH⟩ := he
    subst ey eH
    obtain ⟨t2, rfl⟩ : ∃ t2, v = Value.int k t2 := rv
    try dsimp only
    have J2 : Inv X pins σ H2 s'' := J.call' (ch := []) os un2 hok bare (fun b z => nomatch z)
    have hD2 := un2.keep _ _ hD nD frD (fun z => nomatch z)
    have hK2 := un2.keep _ _ hK nK frK (fun z => nomatch z)
    have hF2 := un2.keep _ _ hF hfn hfr (fun z => nomatch z)
    have s1 := Heap.SameBut.update s''.heap (h1.objs.size + 2) (Obj.mapSeq (·.push (.int k t2)))
    obtain ⟨c2, hc2⟩ : ∃ c2, (s''.heap.update (h1.objs.size + 2) (Obj.mapSeq (·.push (.int k t2)))).get? (h1.objs.size + 2) = some (seqObj "list" (kA.push (.int k t2)) c2) := ⟨_, get?_update_seq hK2 (·.push (.int k t2))⟩
    have ek : kz.take (j + 1) = kz.take j ++ [k] := by rw [List.take_add_one, hkj]; simp
    have ea : (kA.push (Value.int k t2)).toList = kA.toList ++ [Value.int k t2] := by simp
    refine wpAny_bind (listUpdate_at hK2 rfl ?_ (by rw [sizeLine_eq]; omega) (Nat.le_trans (Nat.le_of_eq (Array.size_push ..)) (by rw [sizeLine_eq]; omega)))
    have kk : ∀ b o, b ∉ [h1.objs.size + 2] → s''.heap.get? b = some o → (s''.heap.update (h1.objs.size + 2) (Obj.mapSeq (·.push (.int k t2)))).get? b = some o := fun b o hb e => (s1.2 b fun z => hb (by rw [z]; exact .head _)).trans e
    refine wpAny_pure ⟨rfl, J2.turnedL (ch := [h1.objs.size + 2]) (t' := s''.toks) kk (fun b hb => by rw [List.mem_singleton.mp hb]; exact fpK), Un.more (un.trans un2) kk (fun b hb => by rw [List.mem_singleton.mp hb]; exact sK), os.trans os', (s1.2 _ (fun z => hka z.symm)).trans hD2, (s1.2 fv (Nat.ne_of_lt (Nat.lt_of_lt_of_le fvl (Nat.le_add_right _ 2)))).trans hF2, kA.push (.int k t2), c2, hc2, by rw [ea, ek]; exact ksk_snoc hk⟩
  case done =>
    rintro s' ⟨J, un, os', hD, hF, kA, e, hK, hk⟩
    have hk' : IntsAre kA.toList kz := by
      have e3 : kz.take (0 + vs.length) = kz := List.take_of_length_le (by omega)
      rw [e3] at hk
      exact hk
    try dsimp only
    refine wpAny_bind (listItems_at hK rfl ?_)
    refine sk_end hK hD hka hk' (by omega) (by omega) fun h' out c k hD' ko => ⟨_, rfl, ?_⟩
    have fps : ∀ b ∈ [h1.objs.size + 2, h1.objs.size], FpOk X pins H b := fun b hb => by
      simp only [List.mem_cons, List.not_mem_nil, or_false] at hb
      rcases hb with rfl | rfl
      · exact fpK
      · exact fpD
    have J2 : Inv X pins σ H { s' with heap := h', toks := s'.toks } := J.turnedL (ch := [h1.objs.size + 2, h1.objs.size]) k fps
    have un2 := Un.more un k (fun b hb => by
      simp only [List.mem_cons, List.not_mem_nil, or_false] at hb
      rcases hb with rfl | rfl
      · exact sK
      · exact sD)
    obtain ⟨ps, p1, p2, p3⟩ := out_ints hv ko
    refine wpAny_pure ⟨_, rfl, .ref h1.objs.size, upd H h1.objs.size (.lst ((ps.map (·.2)).map V.int)), ?_, rfl, q ps _ p1 p2 nD⟩
    have hl : ((ps.map (·.2)).map V.int).length ≤ sizeLine := by
      rw [List.length_map, List.length_map, p1.length_eq, List.length_zip, rangeI_len]
      omega
    exact Inv.drained I1 (Nat.le_refl _) hl hD' (vals_of_ints p3) ExOk.nil os' J2.bare un2 J2.hok nD
end
end SK

namespace SK
open PySem PySem.Spec PyProof.Rows L2 LamX
section
variable {X : Cx} {e : Expr} {te : TE}
/-- range(e), the object new -/
theorem ev_range {p pos : Pos} (hg : Gl X "range") (hm : X.mg "range" = none) (ha : PE X e te) (na : starEach [e] X.env = (false, eval e X.env) :: starEach [] X.env) {pins : List (Addr × Obj)} {s : Shared} {σ : L2.St} {H : Hp} {R : Int → Hp → Prop} (I : Inv X pins σ H s)
    (h : te σ H fun x H1 => ∃ n, x = .int n ∧ R n H1) :
    wpAny (model X.prog X.w) X.A (eval (.Call (.Name "range" p) [e] [] pos) X.env) (fun x s' => ∃ r n t u v H', x = .ref r ∧ IsRange s'.heap r 0 n 1 t u v ∧ Inv X pins σ H' s' ∧ FpOk X pins H' r ∧ R n H') X.xe s := by
  refine Call_ (ld_blt I hg hm boot_range (PyProof.Rows.callWith_type1 (one_arg ha I h (fun v s2 x H2 I2 r q => ?_) na) na))
  obtain ⟨n, rfl, q⟩ := q
  obtain ⟨t, rfl⟩ := r
  exact call_range_1 ⟨_, n, _, _, _, H2, rfl, IsRange.new _ _ _ _ _ _ _, I2.kept fun b u e => Heap.get?_push_of_some _ e, I2.fpOk (Nat.le_refl _) (I2.hok.fresh (Nat.le_refl _)), q⟩
def tSK (K : PySem.W.Frag) (T : List (Addr × Str)) (i : Nat) (te : TE) : TE := fun σ H Q => te σ H fun x H1 => ∃ z, x = .int z ∧ ∃ (n : Nat) (a : Addr) (ns : List Int), z = (n : Int) ∧ n ≤ 60 ∧ Tabs T H1 ∧ σ[i]? = some (some (.ref a)) ∧ SqT K H1 a (ns.map V.int) ∧ n ≤ ns.length ∧
  ∀ H2, ExtN H1 H2 → Tabs T H2 → ∀ (ps : List (Int × Int)) (p : Addr), ps.Perm ((ns.take n).zip (rangeI n)) → ps.Pairwise (fun a b => a.1 ≤ b.1) → H2 p = none → Q (.ref p) (upd H2 p (.lst ((ps.map (·.2)).map V.int)))
theorem sqT_extN {K : PySem.W.Frag} {H H1 : Hp} {a : Addr} {xs : List V} (h : SqT K H a xs) (e : ExtN H H1) : SqT K H1 a xs := by
  rcases h with (h | ⟨o, h⟩) | h
  · exact .inl (.inl (e _ _ h fun ps z => nomatch z))
  · exact .inl (.inr ⟨o, e _ _ h fun ps z => nomatch z⟩)
  · exact .inr h
theorem pe_sortKeyIx {T : List (Addr × Str)} {c P : Addr} {k i : Nat} {params : Arguments} {scope : Scope} {nm par : Str} {p p2 p3 p4 lpos kpos pos q1 q2 q3 : Pos} (hg : Gl X "sorted") (hm : X.mg "sorted" = none) (hg2 : Gl X "range") (hm2 : X.mg "range" = none) (ha : PE X e te)
    (TB : TabB X.base X.mg c P) (hcode : X.env.code = .ref c) (hmT : (P, X.env.qual ++ "<lambda>") ∈ T) (hu : ∀ p ∈ T, p.1 = P → p.2 = X.env.qual ++ "<lambda>") (hr : Room (k + 4) X.A) (L : LamS1 X.env.scope scope par) (hpar : par ∉ X.N) (hdef : defaultsOf params X.env = ([], []))
    (hbind : ∀ (q : Str) (cl : List (Str × Addr)) (pm cv ctv u : Value), bindArgs (PySem.W.kla_fn "<lambda>" q params (.Subscript (.Name nm q1) (.Name par q2) q3) scope cl pm cv ctv) ⟨[u], []⟩ = pure [(par, u)])
    (hN : X.N[i]? = some nm) (hfr : scope.names.lookup nm = some .free) (hd1 : (nm == ("__debug__" : Str)) = false) (hc1 : (nm == ("__classdict__" : Str)) = false) (hd2 : (par == ("__debug__" : Str)) = false) (hc2 : (par == ("__classdict__" : Str)) = false)
    (na : starEach [e] X.env = (false, eval e X.env) :: starEach [] X.env := by rfl)
    (he : backTo pos (starEach [Expr.Call (.Name "range" p2) [e] [] p3] X.env) = (false, eval (Expr.Call (.Name "range" p2) [e] [] p3) X.env) :: backTo pos (starEach [] X.env) := by rfl) (hpl : (backTo pos (starEach [Expr.Call (.Name "range" p2) [e] [] p3] X.env)).any (·.1) = false := by rfl)
    (hall : (backToKw pos (keywordEach [(⟨some "key", .Lambda params (.Subscript (.Name nm q1) (.Name par q2) q3) scope lpos, kpos⟩ : Keyword)] X.env)).all (·.1.isSome) = true := by rfl) (hnone : (backToKw pos (keywordEach [(⟨some "key", .Lambda params (.Subscript (.Name nm q1) (.Name par q2) q3) scope lpos, kpos⟩ : Keyword)] X.env)).any (·.1.isNone) = false := by rfl)
    (hks : (backToKw pos (keywordEach [(⟨some "key", .Lambda params (.Subscript (.Name nm q1) (.Name par q2) q3) scope lpos, kpos⟩ : Keyword)] X.env)).filterMap (·.1) = [("key" : Str)] := by rfl) (hpi : PlainIx (.Name par q2) := by exact fun _ _ => rfl) :
    PE X (.Call (.Name "sorted" p) [.Call (.Name "range" p2) [e] [] p3] [⟨some "key", .Lambda params (.Subscript (.Name nm q1) (.Name par q2) q3) scope lpos, kpos⟩] pos) (tSK X.K T i te) := by
  refine ⟨fun pins s σ H Q I h => ?_⟩
  refine wpAny_Call_Name_kw (ld_blt I hg hm PyProof.Rows.boot_sorted ?_ (by decide) (by decide))
  refine PyProof.Rows.callWith_kw ?_ he hpl hall hnone
  refine args_cons (thn (ev_range hg2 hm2 ha na I h) fun x s1 ⟨r, n, t, u, v, H1, ex, hrg, I1, fpr, n', a, ns, en, hn, hT, hσ, hs, hle, q⟩ => args_nil ?_) he
  subst ex en
  rw [hks]
  show wpAny _ _ (evalAll ((do let v ← eval (.Lambda params (.Subscript (.Name nm q1) (.Name par q2) q3) scope lpos) X.env; standAt pos; pure v) :: [])) _ _ _
  have Ip : Inv X (pins ++ pinsAt [r] s1.heap) σ H1 s1 := I1.pinned (fun b hb => by rw [List.mem_singleton.mp hb]; exact fpr) fun b hb => by rw [List.mem_singleton.mp hb]; exact ⟨_, hrg, fun v z => nomatch z⟩
  have hpin := mem_pinsAt (fp := [r]) (h := s1.heap) (List.mem_singleton.mpr rfl) hrg
  refine wpAny_evalAll_cons (wpAny_bind (lam_make2 (pos := lpos) Ip TB hcode hmT hu hT hdef (L.has I.ok) fun f c' pm' ctv H2 s2 I2 eN T2 hf hfn hfr2 hco => wpAny_bind (wpAny_standAt (wpAny_pure ?_))))
  refine wpAny_evalAll_nil ?_
  have hr2 := (I2.pin _ (List.mem_append_right _ (List.mem_append_right _ hpin))).1
  have I3 : Inv X pins σ H2 s2 := I2.unpinned
  have hlen : (ns.take n').length = n' := by rw [List.length_take]; omega
  refine run_sortKey (n := n') (kz := ns.take n') I3 hr.hd hr2 hn hlen hf hfn hfr2 (fun j kk hj s' t J hF => ?_) fun ps p h1 h2 h3 => q H2 eN T2 ps p h1 h2 h3
  have hjn : j < n' := by
    have := (List.getElem?_eq_some_iff.mp hj).1
    omega
  refine lam_call1 (k := k + 1) (x := .int (j : Int)) (tb := tOp (rIxT X.K) (tVar i) (tVar X.N.length)) J L hpar J.env0.in1.in1 hF hco (hbind _ _ _ _ _ _) (hr.in1.in1) ⟨t, rfl⟩ (fun _ => ?_) ?_
  · refine pe_ix ix_tup (pe_var (i := i) (show (X.N ++ [par])[i]? = some nm from ?_) (.inr (.inr hfr)) hd1 hc1) (pe_var (i := X.N.length) (show (X.N ++ [par])[X.N.length]? = some par from ?_) (.inl L.par) hd2 hc2) hpi
    · rw [List.getElem?_append_left (List.getElem?_eq_some_iff.mp hN).1]; exact hN
    · rw [List.getElem?_append_right (Nat.le_refl _), Nat.sub_self]; rfl
  · have hi : i < σ.length := by rw [J.len]; exact (List.getElem?_eq_some_iff.mp hN).1
    refine ⟨.ref a, by rw [List.getElem?_append_left hi]; exact hσ, .int (j : Int), ?_, a, ns.map V.int, (j : Int), .int kk, rfl, rfl, sqT_extN hs eN, ?_, rfl, rfl⟩
    · rw [← J.len, List.getElem?_append_right (Nat.le_refl _), Nat.sub_self]; rfl
    · refine atI_nat ?_
      rw [List.getElem?_take_of_lt hjn] at hj
      rw [List.getElem?_map, hj]
      rfl
end
end SK
namespace DL
open PySem PySem.Spec PyProof.Rows L2
def dSortKey (i : Nat) (te : TED) : TED := fun ρ P => te ρ fun d => ∃ (n : Nat) (ns : List Int), d = .int (n : Int) ∧ n ≤ 60 ∧ ρ[i]? = some (.val (.tuple (ns.map .int))) ∧ n ≤ ns.length ∧
  ∀ ps : List (Int × Int), ps.Perm ((ns.take n).zip (SK.rangeI n)) → ps.Pairwise (fun a b => a.1 ≤ b.1) → P (.list ((ps.map (·.2)).map .int))
section
variable {X : Cx} {C : Ct} {e : Expr} {te : TED}
theorem pf_sortKeyIx {c P : Addr} {k i : Nat} {params : Arguments} {scope : Scope} {nm par : Str} {p p2 p3 lpos kpos pos q1 q2 q3 : Pos} (hg : Gl X "sorted") (hm : X.mg "sorted" = none) (hg2 : Gl X "range") (hm2 : X.mg "range" = none) (ha : PO X C e te)
    (LF : LamF X.mg X.base C.q.w X.env.qual X.env.code c P) (hr : Room (k + 4) X.A) (L : SK.LamS1 X.env.scope scope par) (hpar : par ∉ X.N) (hdef : defaultsOf params X.env = ([], []))
    (hbind : ∀ (q : Str) (cl : List (Str × Addr)) (pm cv ctv u : Value), bindArgs (PySem.W.kla_fn "<lambda>" q params (.Subscript (.Name nm q1) (.Name par q2) q3) scope cl pm cv ctv) ⟨[u], []⟩ = pure [(par, u)])
    (hN : X.N[i]? = some nm) (hfr : scope.names.lookup nm = some .free) (hd1 : (nm == ("__debug__" : Str)) = false := by decide) (hc1 : (nm == ("__classdict__" : Str)) = false := by decide) (hd2 : (par == ("__debug__" : Str)) = false := by decide) (hc2 : (par == ("__classdict__" : Str)) = false := by decide)
    (na : starEach [e] X.env = (false, eval e X.env) :: starEach [] X.env := by rfl)
    (he : backTo pos (starEach [Expr.Call (.Name "range" p2) [e] [] p3] X.env) = (false, eval (Expr.Call (.Name "range" p2) [e] [] p3) X.env) :: backTo pos (starEach [] X.env) := by rfl) (hpl : (backTo pos (starEach [Expr.Call (.Name "range" p2) [e] [] p3] X.env)).any (·.1) = false := by rfl)
    (hall : (backToKw pos (keywordEach [(⟨some "key", .Lambda params (.Subscript (.Name nm q1) (.Name par q2) q3) scope lpos, kpos⟩ : Keyword)] X.env)).all (·.1.isSome) = true := by rfl) (hnone : (backToKw pos (keywordEach [(⟨some "key", .Lambda params (.Subscript (.Name nm q1) (.Name par q2) q3) scope lpos, kpos⟩ : Keyword)] X.env)).any (·.1.isNone) = false := by rfl)
    (hks : (backToKw pos (keywordEach [(⟨some "key", .Lambda params (.Subscript (.Name nm q1) (.Name par q2) q3) scope lpos, kpos⟩ : Keyword)] X.env)).filterMap (·.1) = [("key" : Str)] := by rfl) :
    PF X C (.Call (.Name "sorted" p) [.Call (.Name "range" p2) [e] [] p3] [⟨some "key", .Lambda params (.Subscript (.Name nm q1) (.Name par q2) q3) scope lpos, kpos⟩] pos) (dSortKey i te) :=
  ⟨fun ρ P P' kk => ha.mono _ _ _ fun d ⟨n, ns, h1, h2, h3, h4, h5⟩ => ⟨n, ns, h1, h2, h3, h4, fun ps a b => kk _ (h5 ps a b)⟩,
    pe_imp (SK.pe_sortKeyIx (p4 := p) (T := C.q.w.T) (k := k) (i := i) hg hm hg2 hm2 ha.run LF.tb LF.code LF.mem LF.uni hr L hpar hdef hbind hN hfr hd1 hc1 hd2 hc2 na he hpl hall hnone hks) fun σ H Q ⟨F, O, ρ, R, q⟩ => ⟨F, O, ρ, R, ha.mono _ _ _ (fun d h v H1 F1 s1 R1 r1 => by
      obtain ⟨n, ns, rfl, h2, h3, h4, h5⟩ := h
      obtain ⟨u, e1, a, vs, rfl, t, r⟩ := R1.sl i _ h3
      rw [r.ints_inv] at t
      refine ⟨(n : Int), r1, n, a, ns, rfl, h2, R1.tb, e1, t, h4, fun H2 eN T2 ps p p1 p2 hp => ?_⟩
      have R2 := rel_ext R1 eN T2
      obtain ⟨s, R', r'⟩ := new_lst R2 (RdL.ints (ps.map (·.2))) hp
      exact h5 ps p1 p2 _ _ _ ((s1.trans (stp_ext R1 eN)).trans s) R' (RRc.back (R := rF) (s1.trans (stp_ext R1 eN)).kp r')) q⟩⟩
end
end DL

/-! ### for x, y, z in zip(t, u, v): tuples of one length -/
namespace Z3
open PySem PySem.Spec PyProof.Rows L2
def Itz3 (K : PySem.W.Frag) (a b c : Addr) (N : Nat) : It :=
  ⟨fun i H => ∃ (xs ys zs : List V) (x y z : V), SqT K H a xs ∧ SqT K H b ys ∧ SqT K H c zs ∧ xs[i]? = some x ∧ ys[i]? = some y ∧ zs[i]? = some z ∧ xs.length = N,
    fun i H v H' => ∃ T x y z, v = .ref T ∧ H T = none ∧ H' = upd H T (.tup [x, y, z]) ∧ (∀ xs, SqT K H a xs → xs[i]? = some x) ∧ (∀ ys, SqT K H b ys → ys[i]? = some y) ∧ ∀ zs, SqT K H c zs → zs[i]? = some z,
    fun i H => ∃ xs ys zs : List V, SqT K H a xs ∧ SqT K H b ys ∧ SqT K H c zs ∧ xs.length = N ∧ ys.length = N ∧ zs.length = N ∧ N ≤ i⟩
theorem turn_zip3 {P : Program} {w : World} {K : PySem.W.Frag} {elts : List Expr} {kk : Nat} {tpos : Pos} {a b c z TI TO i1 i2 i3 : Addr} {N : Nat} (S : ZipSep3 z TI TO i1 i2 i3 [i1, a] [i2, b] [i3, c]) (na : a ≠ i1) (nb : b ≠ i2) (nc : c ≠ i3) :
    Turn P w K (.Tuple elts kk tpos) (Itz3 K a b c N) [z, TI, TO, i1, i2, i3] z (fun i h => i ≤ N ∧ IsZip h z TI TO .none ∧ IsTupOf3 h TI (.ref i1) (.ref i2) (.ref i3) ∧ (∃ x y u, IsTupOf3 h TO x y u) ∧ h.IsTupleIter i1 a i ∧ h.IsTupleIter i2 b i ∧ h.IsTupleIter i3 c i) where
  mem := by simp
  obj := fun i h st c hc => by
    obtain ⟨_, hz, hTI, ⟨x, y, u, hTO⟩, ⟨o1, e1, _, d1⟩, ⟨o2, e2, _, d2⟩, ⟨o3, e3, _, d3⟩⟩ := st
    have e' : c = z ∨ c = TI ∨ c = TO ∨ c = i1 ∨ c = i2 ∨ c = i3 := by simpa using hc
    rcases e' with q | q | q | q | q | q
    · rw [q]; exact ⟨_, hz, fun v q => nomatch q⟩
    · rw [q]; exact ⟨_, hTI, fun v q => nomatch q⟩
    · rw [q]; exact ⟨_, hTO, fun v q => nomatch q⟩
    · rw [q]; exact ⟨o1, e1, fun v q => by rw [d1] at q; cases q⟩
    · rw [q]; exact ⟨o2, e2, fun v q => by rw [d2] at q; cases q⟩
    · rw [q]; exact ⟨o3, e3, fun v q => by rw [d3] at q; cases q⟩
  keep := fun i h h' st k => by
    obtain ⟨hN, hz, hTI, ⟨x, y, u, hTO⟩, h1, h2, h3⟩ := st
    exact ⟨hN, k z (by simp) _ hz, k TI (by simp) _ hTI, ⟨x, y, u, k TO (by simp) _ hTO⟩, h1.at fun o q => k i1 (by simp) o q, h2.at fun o q => k i2 (by simp) o q, h3.at fun o q => k i3 (by simp) o q⟩
  item := by
    intro X hP hw hK hc i pins s σ H E I hf st hg
    subst hP hw hK
    obtain ⟨hN, hz, hTI, hTO, h1, h2, h3⟩ := st
    obtain ⟨xs, ys, zs, x, y, u, hqx, hqy, hqz, hx, hy, hu, hxN⟩ := hg
    have hiN : i < N := by rw [← hxN]; exact (List.getElem?_eq_some_iff.mp hx).1
    obtain ⟨its, rv, p, _⟩ := I.tuple hqx
    obtain ⟨its2, rv2, p2, _⟩ := I.tuple hqy
    obtain ⟨its3, rv3, p3, _⟩ := I.tuple hqz
    have hh : X.A.in1.handled = none := I.ok.hd hc
    have W := WalksT.zipD3 S (Draws.tuple (prog := X.prog) (w := X.w) (A := X.A.in1) hh i1 a na its.toArray) (Draws.tuple hh i2 b nb its2.toArray) (Draws.tuple hh i3 c nc its3.toArray)
    have l1 : i < its.length := by rw [← rv.length]; exact (List.getElem?_eq_some_iff.mp hx).1
    have l2 : i < its2.length := by rw [← rv2.length]; exact (List.getElem?_eq_some_iff.mp hy).1
    have l3 : i < its3.length := by rw [← rv3.length]; exact (List.getElem?_eq_some_iff.mp hu).1
    have lt : ∀ b ∈ [z, TI, TO, i1, i2, i3], b < s.heap.objs.size := fun c hcm => by
      have e' : c = z ∨ c = TI ∨ c = TO ∨ c = i1 ∨ c = i2 ∨ c = i3 := by simpa using hcm
      rcases e' with q | q | q | q | q | q
      · rw [q]; exact Heap.lt_size hz
      · rw [q]; exact Heap.lt_size hTI
      · rw [q]; obtain ⟨_, _, _, e⟩ := hTO; exact Heap.lt_size e
      · rw [q]; obtain ⟨_, e1, _⟩ := h1; exact Heap.lt_size e1
      · rw [q]; obtain ⟨_, e1, _⟩ := h2; exact Heap.lt_size e1
      · rw [q]; obtain ⟨_, e1, _⟩ := h3; exact Heap.lt_size e1
    refine W.item i s _ _ (by rw [List.size_toArray, List.size_toArray, List.size_toArray]; omega) ⟨hz, hTI, hTO, ⟨h1, p⟩, ⟨h2, p2⟩, ⟨h3, p3⟩⟩ fun T vals h' tk pt hTs hT mid hk => ?_
    refine ⟨_, rfl, W.go elts kk tpos i T _ _ _ mid fun h'' st2 hk2 => ?_⟩
    obtain ⟨v1, v2, v3, e1, e2, e3, rfl⟩ := pt
    obtain ⟨u1, g1, r1⟩ := rv.get hx
    obtain ⟨u2, g2, r2⟩ := rv2.get hy
    obtain ⟨u3, g3, r3⟩ := rv3.get hu
    have q1 : v1 = u1 := by
      have : its[i]? = some v1 := by simpa using e1
      rw [g1] at this; cases this; rfl
    have q2 : v2 = u2 := by
      have : its2[i]? = some v2 := by simpa using e2
      rw [g2] at this; cases this; rfl
    have q3 : v3 = u3 := by
      have : its3[i]? = some v3 := by simpa using e3
      rw [g3] at this; cases this; rfl
    subst q1 q2 q3
    have hT2 : h''.IsTuple T #[v1, v2, v3] := by
      obtain ⟨o, ho, r⟩ := hT
      exact ⟨o, hk2 _ _ (W.apart i T _ mid) ho, r⟩
    have new : ObjOk X.prog X.w (upd H T (.tup [x, y, u])) h'' T (.tup [x, y, u]) := ⟨by show 3 ≤ sizeLine; decide, [v1, v2, v3], .cons r1 (.cons r2 (.cons r3 .nil)), hT2⟩
    have sub : ∀ b ∈ [z, TO, i1, i2, i3], b ∈ [z, TI, TO, i1, i2, i3] := fun b hb => by
      simp only [List.mem_cons, List.not_mem_nil, or_false] at hb ⊢
      rcases hb with h | h | h | h | h <;> simp [h]
    have I1 : Inv X pins σ (upd H T (.tup [x, y, u])) { s with heap := h'', toks := tk } :=
      I.turnedNew (t' := tk) (ch := [z, TO, i1, i2, i3]) (fun b o hb q => hk2 b o hb (hk b o hb q)) (fun b hb => hf b (sub b hb)) hTs new
    obtain ⟨z', TI', TO', ⟨a1, _⟩, ⟨a2, _⟩, ⟨a3, _⟩⟩ := st2
    refine ⟨.ref T, _, I1, rfl, ⟨_, x, y, u, rfl, I.hok.fresh hTs, rfl, fun l hl => by rw [I.tuple_inj hl hqx]; exact hx, fun l hl => by rw [I.tuple_inj hl hqy]; exact hy, fun l hl => by rw [I.tuple_inj hl hqz]; exact hu⟩, ⟨hiN, z', TI', TO', a1, a2, a3⟩, fun b hb => ?_⟩
    rw [upd_ne (Nat.ne_of_lt (Nat.lt_of_lt_of_le (lt b hb) hTs))]
    exact (hf b hb).1
  done := by
    intro X hP hw hK hc i pins s σ H E I hf st hg
    subst hP hw hK
    obtain ⟨hN, hz, hTI, hTO, h1, h2, h3⟩ := st
    obtain ⟨xs, ys, zs, hqx, hqy, hqz, e1, e2, e3, e4⟩ := hg
    obtain ⟨its, rv, p, _⟩ := I.tuple hqx
    obtain ⟨its2, rv2, p2, _⟩ := I.tuple hqy
    obtain ⟨its3, rv3, p3, _⟩ := I.tuple hqz
    have hh : X.A.in1.handled = none := I.ok.hd hc
    have W := WalksT.zipD3 S (Draws.tuple (prog := X.prog) (w := X.w) (A := X.A.in1) hh i1 a na its.toArray) (Draws.tuple hh i2 b nb its2.toArray) (Draws.tuple hh i3 c nc its3.toArray)
    have l1 := rv.length
    have l2 := rv2.length
    have l3 := rv3.length
    have en : min (min its.toArray.size its2.toArray.size) its3.toArray.size = i := by rw [List.size_toArray, List.size_toArray, List.size_toArray]; omega
    have sub : ∀ b ∈ [z, TO, i1, i2, i3], b ∈ [z, TI, TO, i1, i2, i3] := fun b hb => by
      simp only [List.mem_cons, List.not_mem_nil, or_false] at hb ⊢
      rcases hb with h | h | h | h | h <;> simp [h]
    refine W.done s _ _ (by rw [en]; exact ⟨hz, hTI, hTO, ⟨h1, p⟩, ⟨h2, p2⟩, ⟨h3, p3⟩⟩) fun h' tk hk => ⟨rfl, I.turnedL (t' := tk) (ch := [z, TO, i1, i2, i3]) hk fun b hb => hf b (sub b hb)⟩
  self := fun A i s Q E st h => wpAny_pyIter_zip st.2.1 h
def iZip3 (K : PySem.W.Frag) (ta : TA) : TI := fun σ H R => ta σ H fun vs H1 => ∃ a b c xs ys zs, vs = [.ref a, .ref b, .ref c] ∧ SqT K H1 a xs ∧ SqT K H1 b ys ∧ SqT K H1 c zs ∧ R (Itz3 K a b c xs.length) H1
theorem pi_zip3 {X : Cx} {e e2 e3 : Expr} {ta : TA} {p pos tpos : Pos} {elts : List Expr} {kk : Nat} (hg : Gl X "zip") (hm : X.mg "zip" = none) (ha : PA X [e, e2, e3] ta)
    (hs : starEach [e, e2, e3] X.env = (false, eval e X.env) :: starEach [e2, e3] X.env := by rfl) (hpl : (backTo pos (starEach [e2, e3] X.env)).any (·.1) = false := by rfl) :
    PI X (.Tuple elts kk tpos) (.Call (.Name "zip" p) [e, e2, e3] [] pos) (iZip3 X.K ta) := by
  refine ⟨fun pins s σ H R I h => ?_⟩
  refine Call_ (ld_blt I hg hm PyProof.Rows.boot_zip (PyProof.Rows.callWith_type1 (thn (ha.run pos pins s σ H _ I h) fun us s1 ⟨vs, H1, I1, r1, q1⟩ => ?_) hs hpl))
  obtain ⟨a, b, c, xs, ys, zs, ex, hqx, hqy, hqz, q⟩ := q1
  subst ex
  obtain ⟨u1, r2, rfl, ru1, rr2⟩ : ∃ u r, us = u :: r ∧ RelV (.ref a) u ∧ Vals [.ref b, .ref c] r := by
    cases r1 with
    | cons h t => exact ⟨_, _, rfl, h, t⟩
  obtain ⟨u2, u3, rfl, ru2, ru3⟩ := vals2 rr2
  cases ru1
  cases ru2
  cases ru3
  obtain ⟨its, rv, p1, _⟩ := I1.tuple hqx
  obtain ⟨its2, rv2, p2, _⟩ := I1.tuple hqy
  obtain ⟨its3, rv3, p3, _⟩ := I1.tuple hqz
  obtain ⟨o1, ho1, _⟩ := id p1
  obtain ⟨o2, ho2, _⟩ := id p2
  obtain ⟨o3, ho3, _⟩ := id p3
  have la := Heap.lt_size ho1
  have lb := Heap.lt_size ho2
  have lc := Heap.lt_size ho3
  refine zip_begins3 (begins_tuple a its.toArray) (begins_tuple b its2.toArray) (begins_tuple c its3.toArray) p1 p2 p3 fun h' hz hTI hTO h1 h2 h3 hsz hk => wpAny_pyIter_zip hz ?_
  have I2 : Inv X pins σ H1 { s1 with heap := h' } := I1.kept (t' := s1.toks) hk
  have S := zip_sep3 (N := s1.heap.objs.size) (fp1 := [a]) (fp2 := [b]) (fp3 := [c]) (fun x hx => by rw [List.mem_singleton.mp hx]; exact la) (fun x hx => by rw [List.mem_singleton.mp hx]; exact lb) (fun x hx => by rw [List.mem_singleton.mp hx]; exact lc)
  have fresh : ∀ c, c ∈ [s1.heap.objs.size + 5, s1.heap.objs.size + 3, s1.heap.objs.size + 4, s1.heap.objs.size, s1.heap.objs.size + 1, s1.heap.objs.size + 2] → FpOk X pins H1 c := fun c hcm => by
    have hle : s1.heap.objs.size ≤ c := by
      simp only [List.mem_cons, List.not_mem_nil, or_false] at hcm
      rcases hcm with z | z | z | z | z | z
      · rw [z]; exact Nat.le_add_right _ _
      · rw [z]; exact Nat.le_add_right _ _
      · rw [z]; exact Nat.le_add_right _ _
      · rw [z]; exact Nat.le_refl _
      · rw [z]; exact Nat.le_add_right _ _
      · rw [z]; exact Nat.le_add_right _ _
    exact I1.fpOk hle (I1.hok.fresh hle)
  have n1 : a ≠ s1.heap.objs.size := Nat.ne_of_lt la
  have n2 : b ≠ s1.heap.objs.size + 1 := Nat.ne_of_lt (Nat.lt_succ_of_lt lb)
  have n3 : c ≠ s1.heap.objs.size + 2 := Nat.ne_of_lt (Nat.lt_of_lt_of_le lc (Nat.le_add_right _ _))
  exact ⟨s1.heap.objs.size + 5, [s1.heap.objs.size + 5, s1.heap.objs.size + 3, s1.heap.objs.size + 4, s1.heap.objs.size, s1.heap.objs.size + 1, s1.heap.objs.size + 2], _, _, H1, rfl, I2, turn_zip3 S n1 n2 n3, ⟨Nat.zero_le _, hz, hTI, ⟨_, _, _, hTO⟩, ⟨_, h1, rfl, rfl⟩, ⟨_, h2, rfl, rfl⟩, ⟨_, h3, rfl, rfl⟩⟩, fresh, q⟩
end Z3
namespace DL
open PySem PySem.Spec PyProof.Rows L2
def zip3D : List D → List D → List D → List D
  | x :: xs, y :: ys, z :: zs => .tuple [x, y, z] :: zip3D xs ys zs
  | _, _, _ => []
theorem zip3D_len : ∀ (xs ys zs : List D), xs.length = ys.length → ys.length = zs.length → (zip3D xs ys zs).length = xs.length
  | [], _, _, _, _ => by simp [zip3D]
  | x :: xs, [], _, h, _ => by simp at h
  | x :: xs, y :: ys, [], _, h => by simp at h
  | x :: xs, y :: ys, z :: zs, h1, h2 => by
    simp only [zip3D, List.length_cons]
    rw [zip3D_len xs ys zs (by simpa using h1) (by simpa using h2)]
theorem zip3D_get : ∀ {xs ys zs : List D} {i : Nat} {d : D}, (zip3D xs ys zs)[i]? = some d → ∃ x y z, xs[i]? = some x ∧ ys[i]? = some y ∧ zs[i]? = some z ∧ d = .tuple [x, y, z]
  | [], _, _, _, _, h => by simp [zip3D] at h
  | _ :: _, [], _, _, _, h => by simp [zip3D] at h
  | _ :: _, _ :: _, [], _, _, h => by simp [zip3D] at h
  | x :: xs, y :: ys, z :: zs, 0, d, h => by simp [zip3D] at h; exact ⟨x, y, z, rfl, rfl, rfl, h.symm⟩
  | x :: xs, y :: ys, z :: zs, i + 1, d, h => by
    simp only [zip3D, List.getElem?_cons_succ] at h
    obtain ⟨u, w, v, h1, h2, h3, h4⟩ := zip3D_get h
    exact ⟨u, w, v, by simpa using h1, by simpa using h2, by simpa using h3, h4⟩
section
variable {K : PySem.W.Frag} {C : Ct} {F : Addr → Prop} {H : Hp} {a b c : Addr} {ds es fs : List D} {vs us ws : List V}
theorem feed_zip3 (hl : SqT K H a vs) (r : RdL K F H ds vs) (hb : SqT K H b us) (r' : RdL K F H es us) (hc : SqT K H c ws) (r2 : RdL K F H fs ws) (e1 : ds.length = es.length) (e2 : es.length = fs.length) : Feed K C (Z3.Itz3 K a b c vs.length) (zip3D ds es fs) F H := by
  have l1 := r.len
  have l2 := r'.len
  have l3 := r2.len
  refine ⟨fun i hi F' O ρ σ H' s R => ?_, fun i hi F' O ρ σ H' s R => ?_, fun i d e F' O ρ σ H' s R x H'' y => ?_⟩
  · rw [zip3D_len _ _ _ e1 e2] at hi
    have i1 : i < vs.length := by omega
    have i2 : i < us.length := by omega
    have i3 : i < ws.length := by omega
    exact ⟨vs, us, ws, vs[i], us[i], ws[i], s.seq hl, s.seq hb, s.seq hc, List.getElem?_eq_getElem i1, List.getElem?_eq_getElem i2, List.getElem?_eq_getElem i3, rfl⟩
  · rw [zip3D_len _ _ _ e1 e2] at hi
    exact ⟨vs, us, ws, s.seq hl, s.seq hb, s.seq hc, rfl, by omega, by omega, by omega⟩
  · obtain ⟨T, x', y', z', rfl, n, rfl, h1, h2, h3⟩ := y
    obtain ⟨x, y, z, ex, ey, ez, rfl⟩ := zip3D_get e
    have z1 := h1 vs (s.seq hl)
    have z2 := h2 us (s.seq hb)
    have z3 := h3 ws (s.seq hc)
    obtain ⟨u, hu, hr⟩ := r.get ex
    obtain ⟨w, hw, hr'⟩ := r'.get ey
    obtain ⟨v, hv, hr2⟩ := r2.get ez
    rw [hu] at z1; cases z1
    rw [hw] at z2; cases z2
    rw [hv] at z3; cases z3
    exact new_tup (ds := [x, y, z]) (vs := [x', y', z']) R ⟨_, _, rfl, hr.fst s, _, _, rfl, hr'.fst s, _, _, rfl, hr2.fst s, rfl⟩ n
end
def gZip3 : D → D → D → (List D → Prop) → Prop
  | .tuple xs, .tuple ys, .tuple zs, P => xs.length = ys.length ∧ ys.length = zs.length ∧ P (zip3D xs ys zs)
  | _, _, _, _ => False
theorem mo_gZip3 {x y z : D} {P P' : List D → Prop} (k : ∀ d, P d → P' d) (h : gZip3 x y z P) : gZip3 x y z P' := by
  cases x <;> first | exact h.elim | (cases y <;> first | exact h.elim | (cases z <;> first | exact h.elim | exact ⟨h.1, h.2.1, k _ h.2.2⟩))
def iZip3 (t1 t2 t3 : TED) : TID := fun ρ P => t1 ρ fun x => t2 ρ fun y => t3 ρ fun z => gZip3 x y z P
section
variable {X : Cx} {C : Ct} {e1 e2 e3 : Expr} {t1 t2 t3 : TED} {p pos tpos : Pos} {elts : List Expr} {kk : Nat}
theorem di_zip3 (hg : Gl X "zip") (hm : X.mg "zip" = none) (h1 : PD X C e1 t1) (h2 : PD X C e2 t2) (h3 : PD X C e3 t3) (hs : starEach [e1, e2, e3] X.env = (false, eval e1 X.env) :: starEach [e2, e3] X.env := by rfl) (hs2 : starEach [e2, e3] X.env = (false, eval e2 X.env) :: starEach [e3] X.env := by rfl) (hs3 : starEach [e3] X.env = (false, eval e3 X.env) :: starEach [] X.env := by rfl)
    (hpl : (backTo pos (starEach [e2, e3] X.env)).any (·.1) = false := by rfl) : DI X C (.Tuple elts kk tpos) (.Call (.Name "zip" p) [e1, e2, e3] [] pos) (iZip3 t1 t2 t3) := by
  refine ⟨fun ρ P P' k => h1.mono _ _ _ fun d => h2.mono _ _ _ fun d' => h3.mono _ _ _ fun d2 h => mo_gZip3 k h, pi_imp (Z3.pi_zip3 hg hm (pa_cons h1.run (pa_cons h2.run (pa_cons h3.run pa_nil hs3) hs2) hs) hs hpl) fun σ H Q ⟨F, O, ρ, R, q⟩ => ⟨F, O, ρ, R, h1.mono _ _ _ (fun d k v H1 F1 s1 R1 r1 => ⟨F1, O, ρ, R1, h2.mono _ _ _ (fun d' k2 u H2 F2 s2 R2 r2 => ⟨F2, O, ρ, R2, h3.mono _ _ _ (fun d2 k3 w H3 F3 s3 R3 r3 => ?_) k2⟩) k⟩) q⟩⟩
  have r1 := (r1.stpR R1 s2).stpR R2 s3
  have r2 := r2.stpR R2 s3
  cases d <;> first | exact k3.elim | (cases d' <;> first | exact k3.elim | (cases d2 <;> first | exact k3.elim | skip))
  obtain ⟨a, vs, e, hl, r⟩ := r1
  obtain ⟨b, us, e', hl', r'⟩ := r2
  obtain ⟨c, ws, e'', hl'', r''⟩ := r3
  exact ⟨a, b, c, vs, us, ws, by rw [e, e', e''], hl, hl', hl'', k3.2.2 _ H3 F3 ((s1.trans s2).trans s3) R3 (feed_zip3 hl r hl' r' hl'' r'' k3.1 k3.2.1)⟩
end
end DL

namespace SK
open PySem PySem.Spec PyProof.Rows L2
section
variable {X : Cx} {pins : List (Addr × Obj)} {σ : L2.St} {H : Hp} {s : Shared}
def rSortedTI (K : PySem.W.Frag) : List V → Hp → VK → Prop := fun vs H Q => ∃ (a : Addr) (ns : List Int), vs = [V.ref a] ∧ SqT K H a (ns.map V.int) ∧
  ∀ (ns' : List Int) (p : Addr), ns'.Perm ns → ns'.Pairwise (· ≤ ·) → H p = none → Q (.ref p) (upd H p (.lst (ns'.map V.int)))
theorem cr_sortedTI : CallR X (.builtin "sorted") (rSortedTI X.K) := by
  intro pins s σ H vs us Q I r h
  obtain ⟨a, ns, rfl, hs, q⟩ := h
  obtain ⟨its, rv, hl, hz⟩ := I.tuple hs
  rw [Vals.ref1 r]
  have hi := rv.ints
  have hz' : its.length ≤ sizeLine := by rw [← rv.length]; exact hz
  obtain ⟨ob, hob, hcl, nn, hdd⟩ := hl
  refine Calls.call_function_entry kind_sorted plain_sorted entry_sorted (args_sorted1 _) ?_
  unfold Builtin.«sorted»
  refine wpAny_bind (m := checkCount "sorted" 1 1 _) (wpAny_pure ?_)
  refine wpAny_bind (wpAny_collect_seq a (.inr rfl) hob hcl hdd (fun h1 k1 => ?_) (by rw [List.size_toArray]; exact hz'))
  rw [show its.toArray.toList = its by simp]
  refine wpAny_bind (wpAny_newList ?_ hz')
  have hoL : (h1.push (seqObj "list" its.toArray 0)).get? h1.objs.size = some (seqObj "list" its.toArray 0) := Heap.get?_push_size _ rfl
  refine wpAny_bind (wpAny_holding (wpAny_call_entry slot_list_sort ⟨_, hoL, rfl⟩ entry_list_sort (SrtO.list_sort_ord SrtO.swo_int hoL hz' (fun h2 => SrtO.ints_sortable hi h2) fun out hs hb => ⟨_, rfl, ?_⟩) (args_list_sort _)))
  obtain ⟨k1', k2, k3⟩ := SrtO.ints_out hi hs hb
  obtain ⟨ep, he'⟩ := sortedHeap_at (out := out.toArray) hoL
  have hlen : ((out.map SrtO.iv).map V.int).length ≤ sizeLine := by
    rw [List.length_map, k2.length_eq]
    rw [List.length_map] at hz
    exact hz
  have I1 : Inv X pins σ H { s with heap := h1, toks := s.toks } := I.kept k1
  have keep : ∀ b o, h1.get? b = some o → (sortedHeap (h1.push (seqObj "list" its.toArray 0)) h1.objs.size its out.toArray).get? b = some o := fun b o e => by
    have hlt := Heap.lt_size e
    rw [sortedHeap_old (Nat.ne_of_lt hlt) (by rw [size_push']; exact Nat.lt_succ_of_lt hlt)]
    exact Heap.get?_push_of_some _ e
  exact wpAny_pure ⟨_, rfl, .ref _, upd H h1.objs.size (.lst ((out.map SrtO.iv).map V.int)), I1.laid (t' := s.toks) keep (Nat.le_refl _) ⟨hlen, out, ep, vals_of_ints k1', he'⟩, rfl, q _ _ k2 k3 (I1.hok.fresh (Nat.le_refl _))⟩
end
end SK
namespace DL
open PySem PySem.Spec PyProof.Rows L2
section
variable {X : Cx} {C : Ct} {a b e : Expr} {ta tb te t2 : TED} {p pos : Pos}
/-! ### sorted of a tuple of ints -/
def gSortedT : D → (D → Prop) → Prop
  | .tuple ds, P => ∃ ns : List Int, ds = ns.map .int ∧ ∀ ns' : List Int, ns'.Perm ns → ns'.Pairwise (· ≤ ·) → P (.list (ns'.map .int))
  | _, _ => False
theorem mo_gSortedT : Mo1 gSortedT := fun x P P' k h => by cases x <;> first | exact h.elim | exact ⟨h.choose, h.choose_spec.1, fun n a b => k _ (h.choose_spec.2 n a b)⟩
theorem pf_sortedT (hg : Gl X "sorted") (hm : X.mg "sorted" = none) (he : PO X C e te) (hs : starEach [e] X.env = (false, eval e X.env) :: starEach [] X.env := by rfl) : PF X C (.Call (.Name "sorted" p) [e] [] pos) (dUn gSortedT te) :=
  pv_b1 SK.cr_sortedTI (fun {F O ρ σ H x v Q} R rx h => by
    cases x <;> first | exact h.elim | skip
    obtain ⟨ns, rfl, q⟩ := h
    obtain ⟨l, vs, rfl, t, r⟩ := rx
    rw [r.ints_inv] at t
    refine ⟨l, ns, rfl, t, fun ns' p h1 h2 n => ?_⟩
    obtain ⟨s, R', r'⟩ := new_lst R (RdL.ints ns') n
    exact q ns' h1 h2 _ _ _ s R' r') mo_gSortedT hg hm (by decide +kernel) he (hs := hs)
/-! ### module constants that are tuples of ints -/
def KTup (K : PySem.W.Frag) (mg : Str → Option Value) (x : Str) (ns : List Int) : Prop := ∃ (a : Addr) (o : Obj) (its : Array Value) (n : Nat), mg x = some (.ref a) ∧ K.lookup a = some o ∧ o.cls = .type "tuple" ∧ o.data = .seq its n ∧ its.size ≤ sizeLine ∧ Vals (ns.map V.int) its.toList
theorem pd_globT {x : Str} {ns : List Int} (hg : Gl X x) (hk : KTup X.K X.mg x ns) (hd : (x == ("__debug__" : Str)) = false := by decide) : PD X C (.Name x pos) (tCD (.tuple (ns.map .int))) := by
  obtain ⟨a, o, its, n, hm, h1, h2, h3, h4, h5⟩ := hk
  exact ⟨fun ρ P P' k => k _, pe_imp (pe_glob (v := .ref a) hg hm rfl hd) fun σ H Q ⟨F, O, ρ, R, q⟩ => q _ _ _ (Stp.refl _ _ _) R ⟨a, ns.map V.int, rfl, .inr ⟨o, its, n, h1, h2, h3, h4, h5⟩, RdL.ints ns⟩⟩
/-! ### name, name = (value, [[..] for ..]) -/
def sParV2 (i j : Nat) (te t2 : TED) : TSD := fun D ρ => te ρ fun d => t2 ρ fun x => ∃ rows : List (List DL.D), x = .list (rows.map .list) ∧ D.nx ((ρ.set i (.val d)).set j (.own2 rows))
theorem psd_parV2 {i j : Nat} {x y : Str} {px py pt pt2 ps : Pos} {kt k2 : Nat} {elt tg iter : Expr} {ifs : List Expr} {scope : Scope} {ti : TID} {tt : TTD} {tl : TED} (g : Tgt) (own : List (Str × Nat)) (hc : X.calm = true) (hN : X.N.Nodup) (ha : PD X C a ta) (hI : DI X C tg iter ti) (ok : BlkOk X.N X.env.scope scope own)
    (hv : ∀ i ∈ g.ixs, i ∈ own.map (·.2))
    (hg : ∀ (s : Shared) (H : Hp) (A : Addr) (cl : List (Str × Addr)) (fp : List Addr), PG (X.blk s H scope (compEnvC scope cl A X.env) fp) tg (gTgt X.K g))
    (ht : ∀ (s : Shared) (H : Hp) (A : Addr) (cl : List (Str × Addr)) (fp : List Addr), DTs (X.blk s H scope (compEnvC scope cl A X.env) fp) C ifs tt)
    (he : ∀ (s : Shared) (H : Hp) (A : Addr) (cl : List (Str × Addr)) (fp : List Addr), PF (X.blk s H scope (compEnvC scope cl A X.env) fp) C elt tl)
    (hi : X.N[i]? = some x := by rfl) (hj : X.N[j]? = some y := by rfl) (hij : i ≠ j := by decide) (hx : X.env.scope.names.lookup x = some .local := by rfl) (hy : X.env.scope.names.lookup y = some .local := by rfl)
    (hw : swappedStores [.Tuple [.Name x px, .Name y py] kt pt] (.Tuple [a, .ListComp elt [⟨tg, iter, ifs, 0⟩] scope ps] k2 pt2) X.env = pure (some [x, y]) := by rfl)
    (hs : swapsWithSole [.Tuple [.Name x px, .Name y py] kt pt] (.Tuple [a, .ListComp elt [⟨tg, iter, ifs, 0⟩] scope ps] k2 pt2) pos.line X.env = pure false := by rfl)
    (hf : ∀ x, foldedSetIterable iter X.env x = pure x := by intro _; rfl)
    (hs1 : starEach [a, .ListComp elt [⟨tg, iter, ifs, 0⟩] scope ps] X.env = (false, eval a X.env) :: starEach [.ListComp elt [⟨tg, iter, ifs, 0⟩] scope ps] X.env := by rfl) (hs2 : starEach [Expr.ListComp elt [⟨tg, iter, ifs, 0⟩] scope ps] X.env = (false, eval (.ListComp elt [⟨tg, iter, ifs, 0⟩] scope ps) X.env) :: starEach [] X.env := by rfl) :
    PSD X C (.Assign [.Tuple [.Name x px, .Name y py] kt pt] (.Tuple [a, .ListComp elt [⟨tg, iter, ifs, 0⟩] scope ps] k2 pt2) pos) (sParV2 i j ta (dComp ti g tt tl (own.map (·.2)))) := by
  have mt : MonoT tt := (ht X.s_0 (fun _ => none) 0 [] []).mono
  have me : MonoE tl := (he X.s_0 (fun _ => none) 0 [] []).mono
  have m : MonoE (dComp ti g tt tl (own.map (·.2))) := fun ρ P P' k => hI.mono _ _ _ fun ds => compD_mono mt me ds [] P P' k
  have im := comp_imp2 (K := X.K) (C := C) g own hI.mono hv mt me
  have pe2 : PE X (.ListComp elt [⟨tg, iter, ifs, 0⟩] scope ps) (lift (rF2 X.K) X.K C (dComp ti g tt tl (own.map (·.2)))) :=
    pe_imp (pe_lc (te := lift (rF X.K) X.K C tl) (tt := liftT X.K C tt) hc hN hI.run ok hg (fun s H A cl fp => (ht s H A cl fp).run) (fun s H A cl fp => (he s H A cl fp).run) hf) im
  refine ⟨fun D D' ρ l => ha.mono _ _ _ fun d => m _ _ _ fun x ⟨rows, e, h⟩ => ⟨rows, e, l.nx _ h⟩, ps_imp (ps_par hc hN hi hj hij hx hy (pa_cons ha.run (pa_cons pe2 pa_nil hs2) hs1) hw hs) fun D σ H ⟨F, O, ρ, R, q⟩ => ⟨F, O, ρ, R, ha.mono _ _ _ (fun d k v H1 F1 s1 R1 r1 => ?_) q⟩⟩
  refine ⟨F1, O, ρ, R1, m _ _ _ (fun x ⟨rows, ed, k2⟩ w H2 F2 s2 R2 r2 => ?_) k⟩
  obtain ⟨rows', b, as, e1, rfl, nd, hb, hl, rr⟩ := r2
  have er : rows' = rows := by
    have h2 : rows'.map PyData.list = rows.map PyData.list := PyData.list.inj (e1.symm.trans ed)
    exact map_list_inj h2
  subst er
  exact ⟨v, .ref b, rfl, k2 F2 _ _ H2 (FSt.of R (s1.trans s2)) ((R2.setV i (r1.stpR R1 s2)).setF2 j (fun c hc => ⟨(hb c hc).2.1, (hb c hc).2.2, (R1.np (hb c hc).1).1, (R1.np (hb c hc).1).2.1, (R1.np (hb c hc).1).2.2.1⟩) nd hl rr)⟩
/-! ### x.append(y.pop(e)) -/
def sAppendPop (i j : Nat) (te : TED) : TSD := fun D ρ => match ρ[i]?, ρ[j]? with
  | some (.own xs), some (.own ds) => te ρ fun d => isI d fun n => ∃ k : Nat, n = (k : Int) ∧ n < 1000000 ∧ ∃ y, ds[k]? = some y ∧ xs.length < sizeLine ∧ D.nx ((ρ.set j (.own (ds.eraseIdx k))).set i (.own (xs ++ [y])))
  | _, _ => False
theorem RdL.eraseIdx {K : PySem.W.Frag} {S : Addr → Prop} {H : Hp} : ∀ {ds : List D} {vs : List V} (k : Nat), RdL K S H ds vs → RdL K S H (ds.eraseIdx k) (vs.eraseIdx k)
  | [], _, k, h => by rw [show _ = [] from h]; exact rfl
  | d :: ds, _, 0, ⟨v, r, e, _, h2⟩ => by rw [e]; exact h2
  | d :: ds, _, k + 1, ⟨v, r, e, h1, h2⟩ => by rw [e]; exact ⟨v, r.eraseIdx k, rfl, h1, RdL.eraseIdx (ds := ds) k h2⟩
theorem psd_appendPop {x y : Str} {px p2 p3 py q2 q3 : Pos} (i j : Nat) (hij : i ≠ j) (he : PD X C e te) (hN : X.N[i]? = some x := by rfl) (hN2 : X.N[j]? = some y := by rfl)
    (hv : Vis X.env.scope x := by first | exact Or.inl rfl | exact Or.inr (Or.inl rfl) | exact Or.inr (Or.inr rfl)) (hv2 : Vis X.env.scope y := by first | exact Or.inl rfl | exact Or.inr (Or.inl rfl) | exact Or.inr (Or.inr rfl))
    (hd : (x == ("__debug__" : Str)) = false := by decide) (hcd : (x == ("__classdict__" : Str)) = false := by decide) (hd2 : (y == ("__debug__" : Str)) = false := by decide) (hcd2 : (y == ("__classdict__" : Str)) = false := by decide)
    (hbase : attributeBase (.Name x px) "append" X.env (eval (.Name x px) X.env) = eval (.Name x px) X.env := by rfl) (hbase2 : attributeBase (.Name y py) "pop" X.env (eval (.Name y py) X.env) = eval (.Name y py) X.env := by rfl)
    (hfew : ((backTo p3 (starEach [Expr.Call (.Attribute (.Name y py) "pop" q2) [e] [] q3] X.env)).all (fun x => !x.1) && (backToKw p3 (keywordEach [] X.env)).all (fun x => x.1.isSome)
      && decide (([Expr.Call (.Attribute (.Name y py) "pop" q2) [e] [] q3] : List Expr).length + ([] : List Keyword).length + (if ([] : List Keyword).isEmpty then 0 else 1) < 30)) = true := by rfl)
    (hfew2 : ((backTo q3 (starEach [e] X.env)).all (fun x => !x.1) && (backToKw q3 (keywordEach [] X.env)).all (fun x => x.1.isSome)
      && decide (([e] : List Expr).length + ([] : List Keyword).length + (if ([] : List Keyword).isEmpty then 0 else 1) < 30)) = true := by rfl)
    (hline : (p2.endLine == p3.line) = true := by rfl) (hline2 : (q2.endLine == q3.line) = true := by rfl)
    (hs : starEach [Expr.Call (.Attribute (.Name y py) "pop" q2) [e] [] q3] X.env = (false, eval (.Call (.Attribute (.Name y py) "pop" q2) [e] [] q3) X.env) :: starEach [] X.env := by rfl) (hs2 : starEach [e] X.env = (false, eval e X.env) :: starEach [] X.env := by rfl)
    (hsw : swapsWith (.Call (.Attribute (.Name x px) "append" p2) [.Call (.Attribute (.Name y py) "pop" q2) [e] [] q3] [] p3) none pos.line X.env = pure false := by rfl) :
    PSD X C (.Expr (.Call (.Attribute (.Name x px) "append" p2) [.Call (.Attribute (.Name y py) "pop" q2) [e] [] q3] [] p3) pos) (sAppendPop i j te) := by
  have pp := pe_bm (apos := q2) PySem.F.plainAttrs_list PySem.F.slot_list_pop PySem.F.type_list_pop mt_popAt (pe_var (pos := py) hN2 hv2 hd2 hcd2) (pa_cons he.run pa_nil hs2) hbase2 hfew2 hline2 hs2 (by rfl)
  refine ⟨fun D D' ρ l h => ?_, ps_imp (ps_expr (pe_bm PySem.F.plainAttrs_list PySem.F.slot_list_append PySem.F.type_list_append mt_append (pe_var hN hv hd hcd) (pa_cons pp pa_nil hs) hbase hfew hline hs (by rfl)) hsw) fun D σ H ⟨F, O, ρ, R, q⟩ => ?_⟩
  · unfold sAppendPop at h ⊢
    split at h
    · refine he.mono _ _ _ (fun d h => ?_) h
      cases d <;> first | exact h.elim | skip
      obtain ⟨k, e1, e2, y, e3, e4, h⟩ := h
      exact ⟨k, e1, e2, y, e3, e4, l.nx _ h⟩
    · exact h.elim
  · unfold sAppendPop at q
    split at q
    · rename_i xs ds es es2
      obtain ⟨a, vs, e1, ha, hl, r⟩ := R.sl i _ es
      obtain ⟨b, us, e2, hb, hl2, r2⟩ := R.sl j _ es2
      refine ⟨.ref a, e1, .inl ⟨rfl, vs, SqL.of hl⟩, .ref b, e2, .inl ⟨rfl, us, SqL.of hl2⟩, F, O, ρ, R, he.mono _ _ _ (fun d k v H1 F1 s1 R1 r1 => ?_) q⟩
      cases d <;> first | exact k.elim | skip
      rename_i n
      obtain ⟨kk, rfl, hk1, y, hy, hx, k⟩ := k
      obtain ⟨a', vs1, e1', ha', hla, ra⟩ := R1.sl i _ es
      obtain ⟨b', us1, e2', hb', hlb, rb⟩ := R1.sl j _ es2
      have ea : a' = a := by rw [e1] at e1'; cases e1'; rfl
      have eb : b' = b := by rw [e2] at e2'; cases e2'; rfl
      subst ea eb
      obtain ⟨w, hw, rw'⟩ := rb.get hy
      have hkl : kk < us1.length := (List.getElem?_eq_some_iff.mp hw).1
      have hab : a' ≠ b' := fun z => R1.dj i j hij a' ha' (z ▸ hb')
      refine ⟨b', us1, (kk : Int), kk, w, rfl, by rw [show v = V.int (kk : Int) from r1], hlb, by omega, by omega, ?_, hw, ?_⟩
      · unfold seqIndex?
        simp
        omega
      have R2 := R1.wrOwn es2 e2' hb' hlb (rb.eraseIdx kk)
      have w2 := FSt.wr (F := F1) (u := .lst (us1.eraseIdx kk)) hlb (.inl ⟨_, rfl⟩) (R1.oo j b' hb').1
      have hla2 : upd H1 b' (.lst (us1.eraseIdx kk)) a' = some (.lst vs1) := (upd_ne hab).trans hla
      have es' : (ρ.set j (.own (ds.eraseIdx kk)))[i]? = some (.own xs) := by rw [List.getElem?_set_ne (fun z => hij z.symm)]; exact es
      refine ⟨a', vs1, w, rfl, rfl, hla2, by rw [ra.len]; exact hx, ?_⟩
      refine k F1 O σ _ (((FSt.of R s1).trans w2).trans (FSt.wr hla2 (.inl ⟨_, rfl⟩) (R2.oo i a' ha').1)) (R2.wrOwn es' e1' ha' hla2 ((ra.fst w2).append ⟨w, [], rfl, rw'.fst w2, rfl⟩))
    · exact q.elim
end
end DL

namespace DL
open PySem PySem.Spec PyProof.Rows L2
section
variable {X : Cx} {C : Ct} {e : Expr} {te : TED} {p pos : Pos}
/-! tuple(range(n)) -/
def gRangeT : D → (D → Prop) → Prop
  | .int n, P => (0 ≤ n ∧ n ≤ 16777216) ∧ P (.tuple (rangeD 0 1 n.toNat))
  | _, _ => False
theorem mo_gRangeT : Mo1 gRangeT := fun x P P' k h => by cases x <;> first | exact h.elim | exact ⟨h.1, k _ h.2⟩
theorem pd_rangeT {p2 q : Pos} (hg : Gl X "tuple") (hm : X.mg "tuple" = none) (hg2 : Gl X "range") (hm2 : X.mg "range" = none) (he : PO X C e te) (hc : X.calm = true := by rfl) (hs : starEach [e] X.env = (false, eval e X.env) :: starEach [] X.env := by rfl)
    (hs2 : starEach [Expr.Call (.Name "range" p2) [e] [] q] X.env = (false, eval (Expr.Call (.Name "range" p2) [e] [] q) X.env) :: starEach [] X.env := by rfl) :
    PD X C (.Call (.Name "tuple" p) [.Call (.Name "range" p2) [e] [] q] [] pos) (dUn gRangeT te) :=
  pv_1 (r := fun v H Q => ∃ n, v = .int n ∧ RgOk 0 n ∧ ∀ q, H q = none → Q (.ref q) (upd H q (.tup (rgV 0 n)))) (fun h => pe_imp (pe_tupRg hc hg hm (prg_1 hg2 hm2 h hs) hs2) fun σ H Q q => q)
    (fun {F O ρ σ H x v Q} R rx h => by
      cases x <;> first | exact h.elim | skip
      rename_i n
      obtain ⟨⟨h1, h2⟩, q⟩ := h
      refine ⟨n, rx, RgOk.of_le (by omega) h2 (by omega) h1, fun q0 hn => ?_⟩
      have e : rgV 0 n = ((List.range n.toNat).map fun (i : Nat) => (0 : Int) + (i : Int) * 1).map V.int := by
        unfold rgV
        rw [List.map_map, Int.sub_zero]
        refine List.map_congr_left fun i _ => ?_
        show V.int (0 + (i : Int)) = V.int (0 + (i : Int) * 1)
        rw [Int.mul_one]
      rw [e]
      obtain ⟨s, R', r'⟩ := new_tup R (RdL.ints _) hn
      have e2 : (((List.range n.toNat).map fun (i : Nat) => (0 : Int) + (i : Int) * 1).map PyData.int) = rangeD 0 1 n.toNat := by
        unfold rangeD
        rw [List.map_map]
        rfl
      rw [e2] at r'
      exact q _ _ _ s R' r') mo_gRangeT he
end
end DL

namespace DL
open PySem PySem.Spec PyProof.Rows L2
section
variable {X : Cx} {C : Ct} {a b c d e : Expr} {ta tb tc td te : TED} {p pos p2 q : Pos}
/-! ### len(set(t)): t a tuple of ints -/
def rLenSet (w : World) : List V → Hp → VK → Prop := fun xs H Q => ∃ (a : Addr) (S : Int → Bool) (n : Nat), xs = [.ref a] ∧ H a = some (SetO w a S n) ∧ n ≤ 1000 ∧ ∀ ks : List Int, ks.Nodup → (∀ k, k ∈ ks ↔ S k = true) → ks.length = n → Q (.int (n : Int)) H
theorem cr_lenSet : CallR X (.builtin "len") (rLenSet X.w) := by
  intro pins s σ H xs us Q I r h
  obtain ⟨a, S, n, rfl, ha, hn, q⟩ := h
  rw [Vals.ref1 r]
  obtain ⟨o, es, ep, t, ho, hex, hd, _, nd, hm, _, hf, he, _⟩ := setO_get I ha
  refine call_len_set ho hex hd hf (by rw [he]; omega) ⟨.int (n : Int), H, I.tok _, ⟨_, by rw [he]⟩, ?_⟩
  refine q (es.toList.map keyOf) nd (fun k => (hm k).symm) ?_
  rw [List.length_map, Array.length_toList, he]
def rLenSet1 (K : PySem.W.Frag) (w : World) : V → Hp → VK → Prop := fun v H Q => rSetT K w [v] H fun y H1 => rLenSet w [y] H1 Q
def gLenSet : D → (D → Prop) → Prop
  | .tuple ds, P => ∃ ns : List Int, ds = ns.map .int ∧ ns.length ≤ 60 ∧ ∀ ks : List Int, ks.Nodup → (∀ k, k ∈ ks ↔ k ∈ ns) → P (.int (ks.length : Int))
  | _, _ => False
theorem mo_gLenSet : Mo1 gLenSet := fun x P P' k h => by cases x <;> first | exact h.elim | exact ⟨h.choose, h.choose_spec.1, h.choose_spec.2.1, fun n a b => k _ (h.choose_spec.2.2 n a b)⟩
theorem pd_lenSet (hg : Gl X "len") (hm : X.mg "len" = none) (hg2 : Gl X "set") (hm2 : X.mg "set" = none) (he : PO X C e te) (hc : X.calm = true := by rfl) (hs : starEach [e] X.env = (false, eval e X.env) :: starEach [] X.env := by rfl)
    (hs2 : starEach [Expr.Call (.Name "set" p2) [e] [] q] X.env = (false, eval (Expr.Call (.Name "set" p2) [e] [] q) X.env) :: starEach [] X.env := by rfl) :
    PD X C (.Call (.Name "len" p) [.Call (.Name "set" p2) [e] [] q] [] pos) (dUn gLenSet te) :=
  pv_1 (r := rLenSet1 X.K X.w) (fun h => pe_imp (pe_callB cr_lenSet hg hm (by decide +kernel) (pa_cons (pe_callTy (cr_setT hc) hg2 hm2 PyProof.Rows.boot_set (pa_cons h pa_nil hs) (he := hs)) pa_nil hs2) (he := hs2)) fun σ H Q q => q)
    (fun {F O ρ σ H x v Q} R rx h => by
      cases x <;> first | exact h.elim | skip
      obtain ⟨ns, rfl, hl, q⟩ := h
      obtain ⟨l, vs, rfl, t, r⟩ := rx
      rw [r.ints_inv] at t
      refine ⟨l, ns, rfl, t, hl, fun a S c hn hS hcn => ?_⟩
      refine ⟨a, S, c, rfl, upd_same, by omega, fun ks h1 h2 h3 => ?_⟩
      subst h3
      have R1 : Rel X.K C F O ρ σ (upd H a (SetO X.w a S ks.length)) := R.new hn
      exact q ks h1 (fun k => (h2 k).trans (hS k)) _ _ _ (Stp.new hn) R1 rfl) mo_gLenSet he
/-! ### a <= b <= c < d as a test -/
def tChain3 (r r' r'' : R2) (ta tb tc td : TE) : TE := fun σ H Q => ta σ H fun x H1 => tb σ H1 fun y H2 => r x y H2 fun z H3 => ∃ k, z = .bl k ∧
  (if k = true then tc σ H3 fun w H4 => r' y w H4 fun z H5 => ∃ k, z = .bl k ∧ (if k = true then td σ H5 fun u H6 => r'' w u H6 Q else Q (.bl false) H5) else Q (.bl false) H3)
theorem pt_chain3 {op op' op'' : CmpOp} {r r' r'' : R2} {ta tb tc td : TE} (ho : OpR X (compareOp op) r) (ho' : OpR X (compareOp op') r') (ho'' : OpR X (compareOp op'') r'') (ha : PE X a ta) (hb : PE X b tb) (hc : PE X c tc) (hd : PE X d td)
    (hm : lastMarks [op, op', op''] [b, c, d] = false := by with_unfolding_all rfl) : PT X (.Compare a [op, op', op''] [b, c, d] pos) (tTest (tChain3 r r' r'' ta tb tc td)) := by
  refine ⟨fun pins s σ H Q I h => ?_⟩
  refine isTrue_chain (thn (ha.run pins s σ H _ I h) fun v s1 ⟨x, H1, I1, r1, q1⟩ => test_link (thn (hb.run pins s1 σ H1 _ I1 q1) fun u s2 ⟨y, H2, I2, r2, q2⟩ =>
    thn (ho pins s2 σ H2 x y v u _ I2 r1 r2 q2) fun d0 s3 ⟨z, H3, I3, r3, k, e, q3⟩ => ?_)) hm
  subst e
  cases r3
  refine wpAny_truthy_bool ?_
  cases k with
  | false =>
    obtain ⟨k', e', q'⟩ := q3
    cases e'
    exact ite_ff ⟨H3, I3, q'⟩
  | true =>
    refine ite_tt (test_link (thn (hc.run pins s3 σ H3 _ I3 q3) fun w' s4 ⟨z', H4, I4, r4, q4⟩ => thn (ho' pins s4 σ H4 y z' u w' _ I4 r2 r4 q4) fun d' s5 ⟨z2, H5, I5, r5, k2, e2, q5⟩ => ?_))
    subst e2
    cases r5
    refine wpAny_truthy_bool ?_
    cases k2 with
    | false =>
      obtain ⟨k', e', q'⟩ := q5
      cases e'
      exact ite_ff ⟨H5, I5, q'⟩
    | true =>
      refine ite_tt (test_last (thn (hd.run pins s5 σ H5 _ I5 q5) fun w2 s6 ⟨z6, H6, I6, r6, q6⟩ => thn (ho'' pins s6 σ H6 z' z6 w' w2 _ I6 r4 r6 q6) fun d2 s7 ⟨z7, H7, I7, r7, k3, e3, q7⟩ => ?_))
      subst e3
      cases r7
      exact wpAny_truthy_bool ⟨H7, I7, q7⟩
def dChain3 (g g' g'' : D → D → (D → Prop) → Prop) (ta tb tc td : TED) : TED := fun ρ P => ta ρ fun x => tb ρ fun y => g x y fun z => isB z fun k => if k = true then tc ρ fun w => g' y w fun z => isB z fun k => if k = true then td ρ fun u => g'' w u P else P (.bool false) else P (.bool false)
theorem dt_chain3 {op op' op'' : CmpOp} {r r' r'' : R2} {g g' g'' : D → D → (D → Prop) → Prop} (ho : OpR X (compareOp op) r) (ho' : OpR X (compareOp op') r') (ho'' : OpR X (compareOp op'') r'') (h : By2 X C rE r g) (h' : By2 X C rE r' g') (h'' : By2 X C rE r'' g'') (mg : Mo2 g) (mg' : Mo2 g') (mg'' : Mo2 g'') (ha : PO X C a ta) (hb : PO X C b tb) (hc : PO X C c tc) (hd : PO X C d td)
    (hm : lastMarks [op, op', op''] [b, c, d] = false := by with_unfolding_all rfl) : DT X C (.Compare a [op, op', op''] [b, c, d] pos) (tTestD (dChain3 g g' g'' ta tb tc td)) := by
  have m : MonoE (dChain3 g g' g'' ta tb tc td) := fun ρ P P' k => ha.mono _ _ _ fun x => hb.mono _ _ _ fun y => mg _ _ _ _ fun z => mono_isB fun b h => mono_ite h (hc.mono _ _ _ fun w => mg' _ _ _ _ fun z => mono_isB fun b h => mono_ite h (hd.mono _ _ _ fun u => mg'' _ _ _ _ k) (k _)) (k _)
  refine ⟨fun ρ P P' k => m _ _ _ fun d => mono_isB k, pt_imp (pt_chain3 ho ho' ho'' ha.run hb.run hc.run hd.run hm) fun σ H Q ⟨F, O, ρ, R, q⟩ => ?_⟩
  refine ⟨F, O, ρ, R, ha.mono _ _ _ (fun x k v H1 F1 s1 R1 r1 => ⟨F1, O, ρ, R1, hb.mono _ _ _ (fun y k2 u H2 F2 s2 R2 r2 => ?_) k⟩) q⟩
  refine h R2 (rO_stp R1 s2 r1) r2 (mg _ _ _ _ (fun z kz vz H3 F3 s3 R3 r3 => ?_) k2)
  obtain ⟨b, e, hb⟩ := rdd_isB r3 kz
  refine ⟨b, e, mono_ite hb (fun k3 => ?_) fun k3 => ?_⟩
  · refine ⟨F3, O, ρ, R3, hc.mono _ _ _ (fun w k4 vw H4 F4 s4 R4 r4 => ?_) k3⟩
    refine h' R4 (rO_stp R2 (s3.trans s4) r2) r4 (mg' _ _ _ _ (fun z kz vz H5 F5 s5 R5 r5 => ?_) k4)
    obtain ⟨b, e, hb⟩ := rdd_isB r5 kz
    refine ⟨b, e, mono_ite hb (fun k5 => ?_) fun k5 => ?_⟩
    · refine ⟨F5, O, ρ, R5, hd.mono _ _ _ (fun u k6 vu H6 F6 s6 R6 r6 => ?_) k5⟩
      refine h'' R6 (rO_stp R4 (s5.trans s6) r4) r6 (mg'' _ _ _ _ (fun z kz vz H7 F7 s7 R7 r7 => ?_) k6)
      obtain ⟨b, e, hb⟩ := rdd_isB r7 kz
      exact ⟨b, e, hb H7 F7 ((((((s1.trans s2).trans s3).trans s4).trans s5).trans s6).trans s7) R7⟩
    · exact ⟨false, rfl, k5 H5 F5 ((((s1.trans s2).trans s3).trans s4).trans s5) R5⟩
  · exact ⟨false, rfl, k3 H3 F3 ((s1.trans s2).trans s3) R3⟩
theorem dt_lelelt (ha : PO X C a ta) (hb : PO X C b tb) (hc : PO X C c tc) (hd : PO X C d td) (hm : lastMarks [.LtE, .LtE, .Lt] [b, c, d] = false := by with_unfolding_all rfl) : DT X C (.Compare a [.LtE, .LtE, .Lt] [b, c, d] pos) (tTestD (dChain3 gLe gLe gLt ta tb tc td)) := dt_chain3 op_le op_le op_lt by_le by_le by_lt mo_gI0 mo_gI0 mo_gI0 ha hb hc hd hm
/-! ### rows[k][l] of a list of own lists -/
def tIx2 (i : Nat) (tk tl : TED) : TED := fun ρ P => match ρ[i]? with
  | some (.own2 rows) => tk ρ fun k => isI k fun k => ∃ j r, ixN rows.length k = some j ∧ rows[j]? = some r ∧ tl ρ fun l => isI l fun l => ∃ m d, ixN r.length l = some m ∧ r[m]? = some d ∧ P d
  | _ => False
theorem pd_ix2 {x : Str} {ek el : Expr} {tk tl : TED} {p1 : Pos} (i : Nat) (hk : PD X C ek tk) (hl : PD X C el tl) (hN : X.N[i]? = some x := by rfl) (hv : Vis X.env.scope x := by first | exact Or.inl rfl | exact Or.inr (Or.inl rfl) | exact Or.inr (Or.inr rfl)) (hd : (x == ("__debug__" : Str)) = false := by decide)
    (hcd : (x == ("__classdict__" : Str)) = false := by decide) (hp : PlainIx ek := by exact fun _ _ => rfl) (hp2 : PlainIx el := by exact fun _ _ => rfl) :
    PD X C (.Subscript (.Subscript (.Name x p) ek p1) el p2) (tIx2 i tk tl) := by
  refine ⟨fun ρ P P' k h => ?_, pe_imp (pe_ix ix_seq (pe_ix ix_seq (pe_var hN hv hd hcd) hk.run hp) hl.run hp2) fun σ H Q ⟨F, O, ρ, R, q⟩ => ?_⟩
  · unfold tIx2 at h ⊢
    split at h
    · exact hk.mono _ _ _ (fun k0 h => mono_isI (fun k0 ⟨j, r, h1, h2, h⟩ => ⟨j, r, h1, h2, hl.mono _ _ _ (fun m h => mono_isI (fun m ⟨m', d, h3, h4, h5⟩ => ⟨m', d, h3, h4, k _ h5⟩) h) h⟩) h) h
    · exact h.elim
  · unfold tIx2 at q
    split at q
    · rename_i rows es
      obtain ⟨a, as0, e1, ha, _, _, _, _⟩ := R.sl i _ es
      refine ⟨.ref a, e1, F, O, ρ, R, hk.mono _ _ _ (fun kd k2 u H2 F2 s2 R2 r2 => ?_) q⟩
      obtain ⟨n, rfl, j, row, hj, hrow, k3⟩ := rdd_isI r2 k2
      obtain ⟨a', as, e1', ha', hb', nd, hl2, r⟩ := R2.sl i _ es
      have ea : a' = a := by rw [e1] at e1'; cases e1'; rfl
      subst ea
      have hlen := r.len
      obtain ⟨b, vs, eb, hbl, rb⟩ := r.get hrow
      have ez : L2.atI (as.map V.ref) n = some (.ref b) := by
        unfold L2.atI
        rw [List.length_map, hlen, hj]
        simp [eb]
      refine .inl ⟨a', as.map V.ref, n, .ref b, rfl, rfl, SqL.of hl2, ez, F2, O, ρ, R2, hl.mono _ _ _ (fun m k4 w H3 F3 s3 R3 r3 => ?_) k3⟩
      obtain ⟨m, rfl, m', dd, g3, g4, k5⟩ := rdd_isI r3 k4
      have nb : b ≠ C.q.p ∧ b ≠ C.q.l := let z := R2.oo i b (hb' b (List.mem_of_getElem? eb)); ⟨z.2.1, z.2.2.1⟩
      have hbl3 : H3 b = some (.lst vs) := s3.kp.kp b _ hbl nb.1 nb.2 (fun ps z => nomatch z)
      have rb3 := rb.stpR R2 s3
      have ed : L2.atI row m = some dd := by
        unfold L2.atI
        rw [g3]
        simp [g4]
      obtain ⟨z, ez2, rz⟩ := rb3.atI ed
      exact .inl ⟨b, vs, m, z, rfl, rfl, SqL.of hbl3, ez2, k5 _ _ _ (s2.trans s3) R3 rz⟩
    · exact q.elim
/-! ### code that is not reached -/
theorem pssd_cut {sts : List Stmt} (sts' : List Stmt) (h : PSDs X C sts (fun _ _ => False)) : PSDs X C sts (fun _ _ => False) := h
end
theorem pssd_none {X : Cx} {C : Ct} {sts : List Stmt} : PSDs X C sts (fun _ _ => False) := ⟨fun _ _ _ _ h => h, ⟨fun pins s σ H D I ⟨F, O, ρ, R, q⟩ => q.elim⟩⟩
end DL

namespace DL
open PySem PySem.Spec PyProof.Rows L2
/-! ### name, name, name, name = (value, [[..] for ..], list, list) -/
def sPar4V2 (i j k l : Nat) (te t2 t3 t4 : TED) : TSD := fun D ρ => te ρ fun d => t2 ρ fun x => t3 ρ fun y => t4 ρ fun z => ∃ (rows : List (List DL.D)) (ys zs : List DL.D), x = .list (rows.map .list) ∧ y = .list ys ∧ z = .list zs ∧ D.nx ((((ρ.set i (.val d)).set j (.own2 rows)).set k (.own ys)).set l (.own zs))
section
variable {X : Cx} {C : Ct} {a c d : Expr} {ta tc td : TED}
theorem nn_ne {H H' : Hp} {x y : Addr} {o : HO} (n : Nn H x) (h : H y = some o) (ho : ∀ ps, o ≠ .tbl ps) : x ≠ y := fun z => n.no (by rw [z]; exact h) ho
theorem psd_par4V2 {i j k l : Nat} {pt pt2 ps pos : Pos} {tg0 : Expr} {k2 : Nat} {elt tg iter : Expr} {ifs : List Expr} {scope : Scope} {ti : TID} {tt : TTD} {tl : TED} (g : Tgt) (own : List (Str × Nat)) (hc : X.calm = true) (hN : X.N.Nodup) (ha : PD X C a ta) (hI : DI X C tg iter ti) (ok : BlkOk X.N X.env.scope scope own)
    (hv : ∀ i ∈ g.ixs, i ∈ own.map (·.2))
    (hg : ∀ (s : Shared) (H : Hp) (A : Addr) (cl : List (Str × Addr)) (fp : List Addr), PG (X.blk s H scope (compEnvC scope cl A X.env) fp) tg (gTgt X.K g))
    (ht : ∀ (s : Shared) (H : Hp) (A : Addr) (cl : List (Str × Addr)) (fp : List Addr), DTs (X.blk s H scope (compEnvC scope cl A X.env) fp) C ifs tt)
    (he : ∀ (s : Shared) (H : Hp) (A : Addr) (cl : List (Str × Addr)) (fp : List Addr), PF (X.blk s H scope (compEnvC scope cl A X.env) fp) C elt tl)
    (h3 : PF X C c tc) (h4 : PF X C d td) (hgg : PG X tg0 (gTgt X.K (.tup [i, j, k, l]))) (hjk : j ≠ k := by decide) (hjl : j ≠ l := by decide) (hkl : k ≠ l := by decide)
    (hs : swapsWithSole [tg0] (.Tuple [a, .ListComp elt [⟨tg, iter, ifs, 0⟩] scope ps, c, d] k2 pt2) pos.line X.env = pure false := by rfl) (hw : swappedStores [tg0] (.Tuple [a, .ListComp elt [⟨tg, iter, ifs, 0⟩] scope ps, c, d] k2 pt2) X.env = pure none := by rfl)
    (h1 : (assignEach [tg0] X.env).map (·.2) = [assign tg0 X.env] := by rfl)
    (hf : ∀ x, foldedSetIterable iter X.env x = pure x := by intro _; rfl)
    (hs1 : starEach [a, .ListComp elt [⟨tg, iter, ifs, 0⟩] scope ps, c, d] X.env = (false, eval a X.env) :: starEach [.ListComp elt [⟨tg, iter, ifs, 0⟩] scope ps, c, d] X.env := by rfl) (hs2 : starEach [Expr.ListComp elt [⟨tg, iter, ifs, 0⟩] scope ps, c, d] X.env = (false, eval (.ListComp elt [⟨tg, iter, ifs, 0⟩] scope ps) X.env) :: starEach [c, d] X.env := by rfl)
    (hs3 : starEach [c, d] X.env = (false, eval c X.env) :: starEach [d] X.env := by rfl) (hs4 : starEach [d] X.env = (false, eval d X.env) :: starEach [] X.env := by rfl) :
    PSD X C (.Assign [tg0] (.Tuple [a, .ListComp elt [⟨tg, iter, ifs, 0⟩] scope ps, c, d] k2 pt2) pos) (sPar4V2 i j k l ta (dComp ti g tt tl (own.map (·.2))) tc td) := by
  have mt : MonoT tt := (ht X.s_0 (fun _ => none) 0 [] []).mono
  have me : MonoE tl := (he X.s_0 (fun _ => none) 0 [] []).mono
  have m : MonoE (dComp ti g tt tl (own.map (·.2))) := fun ρ P P' k => hI.mono _ _ _ fun ds => compD_mono mt me ds [] P P' k
  have im := comp_imp2 (K := X.K) (C := C) g own hI.mono hv mt me
  have pe2 : PE X (.ListComp elt [⟨tg, iter, ifs, 0⟩] scope ps) (lift (rF2 X.K) X.K C (dComp ti g tt tl (own.map (·.2)))) :=
    pe_imp (pe_lc (te := lift (rF X.K) X.K C tl) (tt := liftT X.K C tt) hc hN hI.run ok hg (fun s H A cl fp => (ht s H A cl fp).run) (fun s H A cl fp => (he s H A cl fp).run) hf) im
  refine ⟨fun D D' ρ l => ha.mono _ _ _ fun d => m _ _ _ fun x => h3.mono _ _ _ fun y => h4.mono _ _ _ fun z ⟨rows, ys, zs, e1, e2, e3, h⟩ => ⟨rows, ys, zs, e1, e2, e3, l.nx _ h⟩,
    ps_imp (ps_asg (pe_tup (pa_cons ha.run (pa_cons pe2 (pa_cons h3.run (pa_cons h4.run pa_nil hs4) hs3) hs2) hs1)) hgg hs hw h1) fun D σ H ⟨F, O, ρ, R, q⟩ => ⟨F, O, ρ, R, ha.mono _ _ _ (fun d q v H1 F1 s1 R1 r1 => ?_) q⟩⟩
  refine ⟨F1, O, ρ, R1, m _ _ _ (fun x q w H2 F2 s2 R2 r2 => ?_) q⟩
  refine ⟨F2, O, ρ, R2, h3.mono _ _ _ (fun y q w3 H3 F3 s3 R3 r3 => ?_) q⟩
  refine ⟨F3, O, ρ, R3, h4.mono _ _ _ (fun z q w4 H4 F4 s4 R4 r4 => ?_) q⟩
  obtain ⟨rows, ys, zs, ed, rfl, rfl, q⟩ := q
  obtain ⟨rows', b, as, e1, rfl, nd, hb, hl2, rr⟩ := r2
  have er : rows' = rows := by
    have h2 : rows'.map PyData.list = rows.map PyData.list := PyData.list.inj (e1.symm.trans ed)
    exact map_list_inj h2
  subst er
  obtain ⟨b3, x3, rfl, n3, f3, o3, l3, d3⟩ := r3
  obtain ⟨b4, x4, rfl, n4, f4, o4, l4, d4⟩ := r4
  refine ⟨by show 4 ≤ sizeLine; decide, fun p np => ?_⟩
  refine ⟨p, [v, .ref b, .ref b3, .ref b4], rfl, SqT.of upd_same, rfl, names_put [i, j, k, l] [v, .ref b, .ref b3, .ref b4] _ _ _ rfl ?_⟩
  have s5 : Stp C.q F4 F4 H4 (upd H4 p (.tup [v, .ref b, .ref b3, .ref b4])) := Stp.new np
  have R5 := R4.new (o := .tup [v, .ref b, .ref b3, .ref b4]) np
  -- the fresh rows
  have np2 : ∀ z ∈ b :: as, z ≠ C.q.p ∧ z ≠ C.q.l ∧ Nn C.H0 z := fun z hz => ⟨(R1.np (hb z hz).1).1, (R1.np (hb z hz).1).2.1, (R1.np (hb z hz).1).2.2.1⟩
  have th2 : ∀ z ∈ b :: as, ∃ vs, H2 z = some (.lst vs) := fun z hz => by
    rcases List.mem_cons.mp hz with rfl | hz
    · exact ⟨_, hl2⟩
    · exact rr.there z hz
  have s25 := (s3.trans s4).trans s5
  have nf2 : ∀ z ∈ b :: as, ¬ F4 z := fun z hz w => by
    obtain ⟨vs, e⟩ := th2 z hz
    exact (s25.nw z w).elim (hb z hz).2.1 fun n => n.no e (fun ps z => nomatch z)
  have hl5 := s25.kp.kp b _ hl2 (np2 b List.mem_cons_self).1 (np2 b List.mem_cons_self).2.1 (fun ps z => nomatch z)
  have rr5 := rr.stpR R2 s25 fun z hz => ⟨(np2 z (List.mem_cons_of_mem _ hz)).1, (np2 z (List.mem_cons_of_mem _ hz)).2.1⟩
  have R6 := (R5.setV i (r1.stpR R1 (s2.trans s25))).setF2 j (a := b) (as := as) (rows := rows') (fun z hz => ⟨nf2 z hz, (hb z hz).2.2, np2 z hz⟩) nd hl5 rr5
  -- the third
  have q3 := R2.np n3
  have s35 := s4.trans s5
  have l35 := s35.kp.kp b3 _ l3 q3.1 q3.2.1 (fun ps z => nomatch z)
  have f35 : ¬ F4 b3 := fun w => (s35.nw b3 w).elim f3 fun n => n.no l3 (fun ps z => nomatch z)
  have R7 := R6.setF k f35 (fun u hu => by
    unfold putO at hu
    split at hu
    · obtain ⟨vs, e⟩ := th2 b3 hu
      exact n3.no e (fun ps z => nomatch z)
    · exact o3 u hu) q3.1 q3.2.1 q3.2.2.1 l35 (d3.stpR R3 s35)
  -- the fourth
  have q4 := R3.np n4
  have l45 := s5.kp.kp b4 _ l4 q4.1 q4.2.1 (fun ps z => nomatch z)
  have s23 := s3
  have R8 := R7.setF l f4 (fun u hu => by
    unfold putO at hu
    split at hu
    · rw [List.mem_singleton.mp hu] at n4
      exact n4.no l3 (fun ps z => nomatch z)
    · split at hu
      · obtain ⟨vs, e⟩ := th2 b4 hu
        have q := np2 b4 hu
        exact n4.no (s3.kp.kp b4 _ e q.1 q.2.1 (fun ps z => nomatch z)) (fun ps z => nomatch z)
      · exact o4 u hu) q4.1 q4.2.1 q4.2.2.1 l45 (d4.stpR R4 s5)
  exact q F4 _ _ _ (FSt.of R ((s1.trans s2).trans s25)) R8
end
end DL
/-! ### sorted(range(n), key=lambda p: names[p]), names a list -/
namespace SK
open PySem PySem.Spec PyProof.Rows L2 LamX
section
variable {X : Cx} {e : Expr} {te : TE}
def tSKL (K : PySem.W.Frag) (T : List (Addr × Str)) (i : Nat) (te : TE) : TE := fun σ H Q => te σ H fun x H1 => ∃ z, x = .int z ∧ ∃ (n : Nat) (a : Addr) (ns : List Int), z = (n : Int) ∧ n ≤ 60 ∧ Tabs T H1 ∧ σ[i]? = some (some (.ref a)) ∧ H1 a = some (.lst (ns.map V.int)) ∧ n ≤ ns.length ∧
  ∀ H2, ExtN H1 H2 → Tabs T H2 → ∀ (ps : List (Int × Int)) (p : Addr), ps.Perm ((ns.take n).zip (rangeI n)) → ps.Pairwise (fun a b => a.1 ≤ b.1) → H2 p = none → Q (.ref p) (upd H2 p (.lst ((ps.map (·.2)).map V.int)))
theorem pe_sortKeyIxL {T : List (Addr × Str)} {c P : Addr} {k i : Nat} {params : Arguments} {scope : Scope} {nm par : Str} {p p2 p3 p4 lpos kpos pos q1 q2 q3 : Pos} (hg : Gl X "sorted") (hm : X.mg "sorted" = none) (hg2 : Gl X "range") (hm2 : X.mg "range" = none) (ha : PE X e te)
    (TB : TabB X.base X.mg c P) (hcode : X.env.code = .ref c) (hmT : (P, X.env.qual ++ "<lambda>") ∈ T) (hu : ∀ p ∈ T, p.1 = P → p.2 = X.env.qual ++ "<lambda>") (hr : Room (k + 4) X.A) (L : LamS1 X.env.scope scope par) (hpar : par ∉ X.N) (hdef : defaultsOf params X.env = ([], []))
    (hbind : ∀ (q : Str) (cl : List (Str × Addr)) (pm cv ctv u : Value), bindArgs (PySem.W.kla_fn "<lambda>" q params (.Subscript (.Name nm q1) (.Name par q2) q3) scope cl pm cv ctv) ⟨[u], []⟩ = pure [(par, u)])
    (hN : X.N[i]? = some nm) (hfr : scope.names.lookup nm = some .free) (hd1 : (nm == ("__debug__" : Str)) = false) (hc1 : (nm == ("__classdict__" : Str)) = false) (hd2 : (par == ("__debug__" : Str)) = false) (hc2 : (par == ("__classdict__" : Str)) = false)
    (na : starEach [e] X.env = (false, eval e X.env) :: starEach [] X.env := by rfl)
    (he : backTo pos (starEach [Expr.Call (.Name "range" p2) [e] [] p3] X.env) = (false, eval (Expr.Call (.Name "range" p2) [e] [] p3) X.env) :: backTo pos (starEach [] X.env) := by rfl) (hpl : (backTo pos (starEach [Expr.Call (.Name "range" p2) [e] [] p3] X.env)).any (·.1) = false := by rfl)
    (hall : (backToKw pos (keywordEach [(⟨some "key", .Lambda params (.Subscript (.Name nm q1) (.Name par q2) q3) scope lpos, kpos⟩ : Keyword)] X.env)).all (·.1.isSome) = true := by rfl) (hnone : (backToKw pos (keywordEach [(⟨some "key", .Lambda params (.Subscript (.Name nm q1) (.Name par q2) q3) scope lpos, kpos⟩ : Keyword)] X.env)).any (·.1.isNone) = false := by rfl)
    (hks : (backToKw pos (keywordEach [(⟨some "key", .Lambda params (.Subscript (.Name nm q1) (.Name par q2) q3) scope lpos, kpos⟩ : Keyword)] X.env)).filterMap (·.1) = [("key" : Str)] := by rfl) (hpi : PlainIx (.Name par q2) := by exact fun _ _ => rfl) :
    PE X (.Call (.Name "sorted" p) [.Call (.Name "range" p2) [e] [] p3] [⟨some "key", .Lambda params (.Subscript (.Name nm q1) (.Name par q2) q3) scope lpos, kpos⟩] pos) (tSKL X.K T i te) := by
  refine ⟨fun pins s σ H Q I h => ?_⟩
  refine wpAny_Call_Name_kw (ld_blt I hg hm PyProof.Rows.boot_sorted ?_ (by decide) (by decide))
  refine PyProof.Rows.callWith_kw ?_ he hpl hall hnone
  refine args_cons (thn (ev_range hg2 hm2 ha na I h) fun x s1 ⟨r, n, t, u, v, H1, ex, hrg, I1, fpr, n', a, ns, en, hn, hT, hσ, hs, hle, q⟩ => args_nil ?_) he
  subst ex en
  rw [hks]
  show wpAny _ _ (evalAll ((do let v ← eval (.Lambda params (.Subscript (.Name nm q1) (.Name par q2) q3) scope lpos) X.env; standAt pos; pure v) :: [])) _ _ _
  have Ip : Inv X (pins ++ pinsAt [r] s1.heap) σ H1 s1 := I1.pinned (fun b hb => by rw [List.mem_singleton.mp hb]; exact fpr) fun b hb => by rw [List.mem_singleton.mp hb]; exact ⟨_, hrg, fun v z => nomatch z⟩
  have hpin := mem_pinsAt (fp := [r]) (h := s1.heap) (List.mem_singleton.mpr rfl) hrg
  refine wpAny_evalAll_cons (wpAny_bind (lam_make2 (pos := lpos) Ip TB hcode hmT hu hT hdef (L.has I.ok) fun f c' pm' ctv H2 s2 I2 eN T2 hf hfn hfr2 hco => wpAny_bind (wpAny_standAt (wpAny_pure ?_))))
  refine wpAny_evalAll_nil ?_
  have hr2 := (I2.pin _ (List.mem_append_right _ (List.mem_append_right _ hpin))).1
  have I3 : Inv X pins σ H2 s2 := I2.unpinned
  have hlen : (ns.take n').length = n' := by rw [List.length_take]; omega
  refine run_sortKey (n := n') (kz := ns.take n') I3 hr.hd hr2 hn hlen hf hfn hfr2 (fun j kk hj s' t J hF => ?_) fun ps p h1 h2 h3 => q H2 eN T2 ps p h1 h2 h3
  have hjn : j < n' := by
    have := (List.getElem?_eq_some_iff.mp hj).1
    omega
  refine lam_call1 (k := k + 1) (x := .int (j : Int)) (tb := tOp (rIx X.K) (tVar i) (tVar X.N.length)) J L hpar J.env0.in1.in1 hF hco (hbind _ _ _ _ _ _) (hr.in1.in1) ⟨t, rfl⟩ (fun _ => ?_) ?_
  · refine pe_ix ix_seq (pe_var (i := i) (show (X.N ++ [par])[i]? = some nm from ?_) (.inr (.inr hfr)) hd1 hc1) (pe_var (i := X.N.length) (show (X.N ++ [par])[X.N.length]? = some par from ?_) (.inl L.par) hd2 hc2) hpi
    · rw [List.getElem?_append_left (List.getElem?_eq_some_iff.mp hN).1]; exact hN
    · rw [List.getElem?_append_right (Nat.le_refl _), Nat.sub_self]; rfl
  · have hi : i < σ.length := by rw [J.len]; exact (List.getElem?_eq_some_iff.mp hN).1
    refine ⟨.ref a, by rw [List.getElem?_append_left hi]; exact hσ, .int (j : Int), ?_, .inl ⟨a, ns.map V.int, (j : Int), .int kk, rfl, rfl, SqL.of (eN _ _ hs fun ps z => nomatch z), ?_, rfl, rfl⟩⟩
    · rw [← J.len, List.getElem?_append_right (Nat.le_refl _), Nat.sub_self]; rfl
    · refine atI_nat ?_
      rw [List.getElem?_take_of_lt hjn] at hj
      rw [List.getElem?_map, hj]
      rfl
end
end SK
namespace DL
open PySem PySem.Spec PyProof.Rows L2
def dSortKeyL (i : Nat) (te : TED) : TED := fun ρ P => te ρ fun d => ∃ (n : Nat) (ns : List Int), d = .int (n : Int) ∧ n ≤ 60 ∧ ρ[i]? = some (.val (.list (ns.map .int))) ∧ n ≤ ns.length ∧
  ∀ ps : List (Int × Int), ps.Perm ((ns.take n).zip (SK.rangeI n)) → ps.Pairwise (fun a b => a.1 ≤ b.1) → P (.list ((ps.map (·.2)).map .int))
section
variable {X : Cx} {C : Ct} {e : Expr} {te : TED}
theorem pf_sortKeyIxL {c P : Addr} {k i : Nat} {params : Arguments} {scope : Scope} {nm par : Str} {p p2 p3 lpos kpos pos q1 q2 q3 : Pos} (hg : Gl X "sorted") (hm : X.mg "sorted" = none) (hg2 : Gl X "range") (hm2 : X.mg "range" = none) (ha : PO X C e te)
    (LF : LamF X.mg X.base C.q.w X.env.qual X.env.code c P) (hr : Room (k + 4) X.A) (L : SK.LamS1 X.env.scope scope par) (hpar : par ∉ X.N) (hdef : defaultsOf params X.env = ([], []))
    (hbind : ∀ (q : Str) (cl : List (Str × Addr)) (pm cv ctv u : Value), bindArgs (PySem.W.kla_fn "<lambda>" q params (.Subscript (.Name nm q1) (.Name par q2) q3) scope cl pm cv ctv) ⟨[u], []⟩ = pure [(par, u)])
    (hN : X.N[i]? = some nm) (hfr : scope.names.lookup nm = some .free) (hd1 : (nm == ("__debug__" : Str)) = false := by decide) (hc1 : (nm == ("__classdict__" : Str)) = false := by decide) (hd2 : (par == ("__debug__" : Str)) = false := by decide) (hc2 : (par == ("__classdict__" : Str)) = false := by decide)
    (na : starEach [e] X.env = (false, eval e X.env) :: starEach [] X.env := by rfl)
    (he : backTo pos (starEach [Expr.Call (.Name "range" p2) [e] [] p3] X.env) = (false, eval (Expr.Call (.Name "range" p2) [e] [] p3) X.env) :: backTo pos (starEach [] X.env) := by rfl) (hpl : (backTo pos (starEach [Expr.Call (.Name "range" p2) [e] [] p3] X.env)).any (·.1) = false := by rfl)
    (hall : (backToKw pos (keywordEach [(⟨some "key", .Lambda params (.Subscript (.Name nm q1) (.Name par q2) q3) scope lpos, kpos⟩ : Keyword)] X.env)).all (·.1.isSome) = true := by rfl) (hnone : (backToKw pos (keywordEach [(⟨some "key", .Lambda params (.Subscript (.Name nm q1) (.Name par q2) q3) scope lpos, kpos⟩ : Keyword)] X.env)).any (·.1.isNone) = false := by rfl)
    (hks : (backToKw pos (keywordEach [(⟨some "key", .Lambda params (.Subscript (.Name nm q1) (.Name par q2) q3) scope lpos, kpos⟩ : Keyword)] X.env)).filterMap (·.1) = [("key" : Str)] := by rfl) :
    PF X C (.Call (.Name "sorted" p) [.Call (.Name "range" p2) [e] [] p3] [⟨some "key", .Lambda params (.Subscript (.Name nm q1) (.Name par q2) q3) scope lpos, kpos⟩] pos) (dSortKeyL i te) :=
  ⟨fun ρ P P' kk => ha.mono _ _ _ fun d ⟨n, ns, h1, h2, h3, h4, h5⟩ => ⟨n, ns, h1, h2, h3, h4, fun ps a b => kk _ (h5 ps a b)⟩,
    pe_imp (SK.pe_sortKeyIxL (p4 := p) (T := C.q.w.T) (k := k) (i := i) hg hm hg2 hm2 ha.run LF.tb LF.code LF.mem LF.uni hr L hpar hdef hbind hN hfr hd1 hc1 hd2 hc2 na he hpl hall hnone hks) fun σ H Q ⟨F, O, ρ, R, q⟩ => ⟨F, O, ρ, R, ha.mono _ _ _ (fun d h v H1 F1 s1 R1 r1 => by
      obtain ⟨n, ns, rfl, h2, h3, h4, h5⟩ := h
      obtain ⟨u, e1, a, vs, rfl, _, t, r⟩ := R1.sl i _ h3
      rw [r.ints_inv] at t
      refine ⟨(n : Int), r1, n, a, ns, rfl, h2, R1.tb, e1, t, h4, fun H2 eN T2 ps p p1 p2 hp => ?_⟩
      have R2 := rel_ext R1 eN T2
      obtain ⟨s, R', r'⟩ := new_lst R2 (RdL.ints (ps.map (·.2))) hp
      exact h5 ps p1 p2 _ _ _ ((s1.trans (stp_ext R1 eN)).trans s) R' (RRc.back (R := rF) (s1.trans (stp_ext R1 eN)).kp r')) q⟩⟩
end
end DL

namespace DL
open PySem PySem.Spec PyProof.Rows L2
/-- fnr_raw, the code of the def at hand -/
theorem fnr_raw2 {G : Around → Prop} {P : Program} {w : World} {K : PySem.W.Frag} {mg : Str → Option Value} {base : Heap} {k : Nat} {f : Addr} {x qual : Str} {st : Stmt} {fd : FuncData} {N ps : List Str} {sp : Sp}
    (F : L2.Fun K x qual st f fd) (S : FnScope N ps (defScope st)) (hGd : ∀ A env, G A → G (A.deeper env)) (len : ∀ vs H Q E, sp vs H Q E → vs.length = ps.length)
    (hbody : ∀ (cdv : Value), fd.code = cdv → ∀ (A : Around) (outer : List Env) (s : Shared) (H : Hp) (vs : List V) (Q : VK) (E : XK), Room k (A.deeper (envOfC qual (defScope st) s.heap.objs.size f cdv)) → G (A.deeper (envOfC qual (defScope st) s.heap.objs.size f cdv)) → sp vs H Q E →
      ∃ t, PSs (cxOf (L2.CX P w) P w K mg base N qual (defScope st) f cdv A outer s H E) (defBody st) t ∧ t { nx := fun _ H' => Q .non H', rt := Q } (L2.start N vs) H) :
    FnR G P w K mg base (L2.CX P w) (k + 1) f fd ps sp := by
  obtain ⟨oc, od, kV, doc, pm, an, cdv, ct, osl, rfl, lk, hcd⟩ := F.ex
  exact ⟨len, fun A outer s H args us vs Q E hr hg e0 hb r hsp => LamX.run_ofS (N := N) (ps := ps) (us := us) (vs := vs) lk hcd S hr e0 hb r (len _ _ _ _ hsp) fun hr' => hbody cdv rfl A outer s H vs Q E hr' (hGd _ _ hg) hsp⟩
end DL

namespace DL
open PySem L2
/-! ### sizes -/
def Sm (e : Nat) (i : Int) : Prop := i.natAbs < 2 ^ e
theorem Sm.le {a b : Nat} {i : Int} (h : Sm a i) (hab : a ≤ b) : Sm b i := Nat.lt_of_lt_of_le h (Nat.pow_le_pow_right (by decide) hab)
theorem Sm.mul {a b : Nat} {i j : Int} (h : Sm a i) (h' : Sm b j) : Sm (a + b) (i * j) := by
  unfold Sm at *
  rw [Int.natAbs_mul, Nat.pow_add]
  exact Nat.mul_lt_mul'' h h'
theorem Sm.add {a : Nat} {i j : Int} (h : Sm a i) (h' : Sm a j) : Sm (a + 1) (i + j) := by
  unfold Sm at *
  have := Int.natAbs_add_le i j
  rw [Nat.pow_succ]
  omega
theorem Sm.neg {a : Nat} {i : Int} (h : Sm a i) : Sm a (-i) := by unfold Sm at *; rwa [Int.natAbs_neg]
theorem Sm.cmul {a b : Nat} {i j : Int} (h : Sm a i) (h' : Sm b j) (hab : a + b < 999998) : CMulW i j :=
  wide_mul (a := a + 1) (b := b + 1) (h.le (Nat.le_succ _)) (h'.le (Nat.le_succ _)) (Nat.succ_pos _) (Nat.succ_pos _) (by omega)
theorem Sm.cdiv {b : Nat} {i j : Int} (h0 : 0 < j) (h : Sm b j) (hb : b < 8999) : CDivW i j := wide_div (b := b + 1) h0 (h.le (Nat.le_succ _)) (Nat.succ_pos _) (by omega)
theorem Sm.zero {a : Nat} : Sm a 0 := by unfold Sm; exact Nat.pow_pos (by decide)
theorem Sm.one {a : Nat} (h : 0 < a) : Sm a 1 := by
  unfold Sm
  have : 2 ^ 1 ≤ 2 ^ a := Nat.pow_le_pow_right (by decide) h
  show 1 < _
  omega
theorem Sm.of {a : Nat} {i : Int} (h : -(2 ^ a) < i) (h' : i < 2 ^ a) : Sm a i := by
  unfold Sm
  have e : ((2 ^ a : Nat) : Int) = (2 : Int) ^ a := by rw [Int.natCast_pow]; rfl
  omega
/-! ### the greatest common divisor -/
def gc (a b : Int) : Int := (Int.gcd a b : Nat)
theorem gc_zero (a : Int) (h : 0 ≤ a) : gc a 0 = a := by unfold gc; rw [Int.gcd_zero_right]; omega
theorem gc_step {a b : Int} (ha : 0 ≤ a) (hb : 0 ≤ b) : gc b (a % b) = gc a b := by
  obtain ⟨m, rfl⟩ := Int.eq_ofNat_of_zero_le ha
  obtain ⟨n, rfl⟩ := Int.eq_ofNat_of_zero_le hb
  unfold gc Int.gcd
  have e : ((m : Int) % (n : Int)).natAbs = m % n := by
    rw [← Int.natCast_emod, Int.natAbs_natCast]
  rw [e, Int.natAbs_natCast, Int.natAbs_natCast, Nat.gcd_comm n, ← Nat.gcd_rec n m, Nat.gcd_comm]
theorem gc_abs (a b : Int) : gc (if a < 0 then -a else a) (if b < 0 then -b else b) = gc a b := by
  unfold gc
  have e : ∀ x : Int, (if x < 0 then -x else x).natAbs = x.natAbs := fun x => by split <;> simp
  unfold Int.gcd
  rw [e, e]
theorem gc_pos {a b : Int} (h : b ≠ 0) : 0 < gc a b := by
  unfold gc
  have := Int.gcd_pos_of_ne_zero_right a h
  omega
theorem gc_le {a b : Int} (h : 0 < b) : gc a b ≤ b := by
  unfold gc
  have := Int.gcd_le_right (a := a) (b := b) (by omega)
  omega
/-- the fraction without a common divisor -/
def rd (t b : Int) : Int × Int := (t / gc t b, b / gc t b)
end DL

namespace DL
open PySem PySem.Spec PyProof.Rows L2
theorem RdL.strs {K : PySem.W.Frag} {S : Addr → Prop} {H : Hp} : ∀ ys : List Str, RdL K S H (ys.map .str) (ys.map V.str)
  | [] => rfl
  | y :: ys => ⟨_, _, rfl, rfl, RdL.strs ys⟩
theorem RdL.strs_inv {K : PySem.W.Frag} {S : Addr → Prop} {H : Hp} : ∀ {ys : List Str} {vs : List V}, RdL K S H (ys.map .str) vs → vs = ys.map V.str
  | [], _, h => h
  | b :: bs, _, ⟨v, r, e, h1, h2⟩ => by rw [e, show v = V.str b from h1, RdL.strs_inv (ys := bs) h2]; rfl
section
variable {X : Cx} {C : Ct} {o e a b : Expr} {to te ta tb : TED} {p pos apos p2 : Pos}
/-! ### methods of a text and one thing -/
def dM1 (g : D → D → (D → Prop) → Prop) (ta tb : TED) : TED := fun ρ P => ta ρ fun x => (∃ a, x = .str a) ∧ tb ρ fun y => g x y P
def gSplit : D → D → (D → Prop) → Prop
  | .str a, .str b, P => (b.length == 0) = false ∧ a.length + 2 ≤ sizeLine ∧ P (.list ((Txt.split a b).map .str))
  | _, _, _ => False
theorem mo_gSplit : Mo2 gSplit := fun x y P P' k h => by cases x <;> first | exact h.elim | (cases y <;> first | exact h.elim | exact ⟨h.1, h.2.1, k _ h.2.2⟩)
def gJoin : D → D → (D → Prop) → Prop
  | .str a, .list ds, P => ∃ ys : List Str, ds = ys.map .str ∧ (ys.map (·.length)).sum + ys.length * a.length ≤ 16777216 ∧ P (.str (Txt.join a ys))
  | _, _, _ => False
theorem mo_gJoin : Mo2 gJoin := fun x y P P' k h => by cases x <;> first | exact h.elim | (cases y <;> first | exact h.elim | exact ⟨h.choose, h.choose_spec.1, h.choose_spec.2.1, k _ h.choose_spec.2.2⟩)
theorem mo_dM1 {g : D → D → (D → Prop) → Prop} (mg : Mo2 g) (ha : MonoE ta) (hb : MonoE tb) : MonoE (dM1 g ta tb) := fun ρ P P' k => ha _ _ _ fun x h => ⟨h.1, hb _ _ _ (fun y => mg _ _ _ _ k) h.2⟩
theorem pf_split (ho : PO X C o to) (he : PO X C e te) (hs : starEach [e] X.env = [(false, eval e X.env)] := by rfl) (hbase : attributeBase o "split" X.env (eval o X.env) = eval o X.env := by rfl) (hline : (apos.endLine == pos.line) = true := by rfl) :
    PF X C (.Call (.Attribute o "split" apos) [e] [] pos) (dM1 gSplit to te) :=
  ⟨mo_dM1 mo_gSplit ho.mono he.mono, pe_imp (pe_split ho.run he.run hs hbase hline) fun σ H Q ⟨F, O, ρ, R, q⟩ => ⟨F, O, ρ, R, ho.mono _ _ _ (fun x k v H1 F1 s1 R1 r1 => by
    obtain ⟨⟨a, rfl⟩, k⟩ := k
    have ev : v = .str a := r1
    refine ⟨⟨a, ev⟩, F1, O, ρ, R1, he.mono _ _ _ (fun y k2 u H2 F2 s2 R2 r2 => ?_) k⟩
    cases y <;> first | exact k2.elim | skip
    obtain ⟨h1, h2, h3⟩ := k2
    refine ⟨_, _, ev, by rw [show u = _ from r2], h1, h2, fun p n => ?_⟩
    obtain ⟨s, R', r'⟩ := new_lst R2 (RdL.strs (Txt.split a ‹Str›)) n
    exact h3 _ _ _ ((s1.trans s2).trans s) R' (RRc.back (R := rF) (s1.trans s2).kp r')) q⟩⟩
theorem pd_join (ho : PO X C o to) (he : PO X C e te) (hs : starEach [e] X.env = [(false, eval e X.env)] := by rfl) (hbase : attributeBase o "join" X.env (eval o X.env) = eval o X.env := by rfl) (hline : (apos.endLine == pos.line) = true := by rfl) :
    PD X C (.Call (.Attribute o "join" apos) [e] [] pos) (dM1 gJoin to te) :=
  ⟨mo_dM1 mo_gJoin ho.mono he.mono, pe_imp (pe_join ho.run he.run hs hbase hline) fun σ H Q ⟨F, O, ρ, R, q⟩ => ⟨F, O, ρ, R, ho.mono _ _ _ (fun x k v H1 F1 s1 R1 r1 => by
    obtain ⟨⟨a, rfl⟩, k⟩ := k
    have ev : v = .str a := r1
    refine ⟨⟨a, ev⟩, F1, O, ρ, R1, he.mono _ _ _ (fun y k2 u H2 F2 s2 R2 r2 => ?_) k⟩
    cases y <;> first | exact k2.elim | skip
    obtain ⟨ys, rfl, h2, h3⟩ := k2
    obtain ⟨l, vs, rfl, _, t, r⟩ := r2
    rw [r.strs_inv] at t
    exact ⟨a, l, ys, ev, rfl, .inl (SqL.of t), h2, h3 _ _ _ (s1.trans s2) R2 rfl⟩) q⟩⟩
/-! ### f'text {e}', e an int -/
def gFs (c : Str) : D → (D → Prop) → Prop
  | .int i, P => i.natAbs.log2 < 1920 ∧ (c ++ (toString i : Str)).length ≤ sizeLine ∧ P (.str (c ++ (toString i : Str)))
  | _, _ => False
theorem mo_gFs {c : Str} : Mo1 (gFs c) := fun x P P' k h => by cases x <;> first | exact h.elim | exact ⟨h.1, h.2.1, k _ h.2.2⟩
def dFs (c : Str) (te : TED) : TED := fun ρ P => c.length ≤ sizeLine ∧ te ρ fun d => gFs c d P
theorem empty_cat (c : Str) : Str.empty ++ c = c := by
  apply Str.ext'
  show #[] ++ c.cps = c.cps
  simp
theorem pd_fs {c : Str} {j : Nat} {p1 p3 : Pos} (he : PD X C e te) : PD X C (.JoinedStr [.Constant (.str c) j p1, .FormattedValue e (-1) none p2] p3) (dFs c te) :=
  ⟨fun ρ P P' k h => ⟨h.1, he.mono _ _ _ (fun d => mo_gFs _ _ _ k) h.2⟩, pe_imp (pe_joined (.cons pe_str (.cons (pe_fmt he.run) .nil))) fun σ H Q ⟨F, O, ρ, R, q⟩ => by
    obtain ⟨hc, q⟩ := q
    refine ⟨c, rfl, by rw [empty_cat]; exact hc, ?_⟩
    rw [empty_cat]
    refine ⟨F, O, ρ, R, he.mono _ _ _ (fun d k v H1 F1 s1 R1 r1 => ?_) q⟩
    cases d <;> first | exact k.elim | skip
    obtain ⟨h1, h2, h3⟩ := k
    exact .inr ⟨_, r1, h1, _, rfl, h2, h3 _ _ _ s1 R1 rfl⟩⟩
/-! ### for c in text -/
def signsD (z : Str) : List D := z.cps.toList.map fun c => .str ⟨#[c]⟩
def iS (te : TED) : TID := fun ρ P => te ρ fun d => match d with
  | .str z => P (signsD z)
  | _ => False
theorem feed_str {K : PySem.W.Frag} {C : Ct} {F : Addr → Prop} {H : Hp} (z : Str) : Feed K C (Its z) (signsD z) F H := by
  have hl : (signsD z).length = z.cps.size := by unfold signsD; rw [List.length_map, Array.length_toList]
  refine ⟨fun i hi F' O ρ σ H' s R => by rw [hl] at hi; exact hi, fun i hi F' O ρ σ H' s R => by rw [hl] at hi; exact hi, fun i d e F' O ρ σ H' s R x H'' y => ?_⟩
  obtain ⟨rfl, c, hc, rfl⟩ := y
  unfold signsD at e
  rw [List.getElem?_map, Array.getElem?_toList, hc] at e
  have e : some (PyData.str ⟨#[c]⟩) = some d := e
  cases e
  exact ⟨Stp.refl _ _ _, R, rfl⟩
theorem di_str {tg : Expr} (h : PD X C e te) : DI X C tg e (iS te) :=
  ⟨fun ρ P P' k => h.mono _ _ _ fun d h => by cases d <;> first | exact h.elim | exact k _ h, pi_imp (pi_str h.run) fun σ H Q ⟨F, O, ρ, R, q⟩ => ⟨F, O, ρ, R, h.mono _ _ _ (fun d k v H' F' s R' r => by
    cases d <;> first | exact k.elim | skip
    exact ⟨_, r, k _ H' F' s R' (feed_str _)⟩) q⟩⟩
/-! ### c in text, c not in text: one sign -/
def gInS (neg : Bool) : D → D → (D → Prop) → Prop
  | .str x, .str z, P => ∃ c, x = ⟨#[c]⟩ ∧ P (.bool (if neg then !decide (c ∈ z.cps.toList) else decide (c ∈ z.cps.toList)))
  | _, _, _ => False
theorem mo_gInS {neg : Bool} : Mo2 (gInS neg) := fun x y P P' k h => by cases x <;> first | exact h.elim | (cases y <;> first | exact h.elim | exact ⟨h.choose, h.choose_spec.1, k _ h.choose_spec.2⟩)
def rInSg (neg : Bool) : R2 := fun x y H Q => ∃ (c : Nat) (z : Str), x = .str ⟨#[c]⟩ ∧ y = .str z ∧ Q (.bl (if neg then !decide (c ∈ z.cps.toList) else decide (c ∈ z.cps.toList))) H
theorem op_inSg0 : OpR X (compareOp .In) (rInSg false) := fun pins s σ H x y v u Q I rx ry h => op_in_sign pins s σ H x y v u Q I rx ry h
theorem op_inSg1 : OpR X (compareOp .NotIn) (rInSg true) := fun pins s σ H x y v u Q I rx ry h => op_notIn_sign pins s σ H x y v u Q I rx ry h
theorem by_inS {neg : Bool} : By2 X C rE (rInSg neg) (gInS neg) := fun {F O ρ σ H x y v u Q} R rx ry h => by
  cases x <;> first | exact h.elim | (cases y <;> first | exact h.elim | skip)
  obtain ⟨c, rfl, h⟩ := h
  exact ⟨c, _, rx, ry, h _ _ _ (Stp.refl _ _ _) R rfl⟩
theorem pd_inS (ha : PO X C a ta) (hb : PO X C b tb) (hm : behindInMarks .In b = false := by with_unfolding_all rfl) : PD X C (.Compare a [.In] [b] pos) (dBi (gInS false) ta tb) := pv_2 (fun h h' => pe_cmpR op_inSg0 h h' hm) by_inS mo_gInS ha hb
theorem pd_ninS (ha : PO X C a ta) (hb : PO X C b tb) (hm : behindInMarks .NotIn b = false := by with_unfolding_all rfl) : PD X C (.Compare a [.NotIn] [b] pos) (dBi (gInS true) ta tb) := pv_2 (fun h h' => pe_cmpR op_inSg1 h h' hm) by_inS mo_gInS ha hb
theorem dt_inS (ha : PO X C a ta) (hb : PO X C b tb) (hm : behindInMarks .In b = false := by with_unfolding_all rfl) : DT X C (.Compare a [.In] [b] pos) (tTestD (dBi (gInS false) ta tb)) := dt_2 (fun h h' => pt_cmpR op_inSg0 h h' hm) by_inS mo_gInS ha hb
theorem dt_ninS (ha : PO X C a ta) (hb : PO X C b tb) (hm : behindInMarks .NotIn b = false := by with_unfolding_all rfl) : DT X C (.Compare a [.NotIn] [b] pos) (tTestD (dBi (gInS true) ta tb)) := dt_2 (fun h h' => pt_cmpR op_inSg1 h h' hm) by_inS mo_gInS ha hb
/-! ### None not in a list of ints and None -/
def optD : Option Int → D
  | none => .none
  | some i => .int i
def optV : Option Int → V
  | none => .non
  | some i => .int i
theorem RdL.opts_inv {K : PySem.W.Frag} {S : Addr → Prop} {H : Hp} : ∀ {os : List (Option Int)} {vs : List V}, RdL K S H (os.map optD) vs → vs = os.map optV
  | [], _, h => h
  | o :: os, _, ⟨v, r, e, h1, h2⟩ => by
    rw [e, RdL.opts_inv (os := os) h2]
    cases o with
    | none => rw [show v = V.non from h1]; rfl
    | some i => rw [show v = V.int i from h1]; rfl
def gNoneIn (neg : Bool) : D → D → (D → Prop) → Prop
  | .none, .list ds, P => ∃ os : List (Option Int), ds = os.map optD ∧ P (.bool (if neg then !os.any Option.isNone else os.any Option.isNone))
  | _, _, _ => False
theorem mo_gNoneIn {neg : Bool} : Mo2 (gNoneIn neg) := fun x y P P' k h => by cases x <;> first | exact h.elim | (cases y <;> first | exact h.elim | exact ⟨h.choose, h.choose_spec.1, k _ h.choose_spec.2⟩)
theorem inV_opts : ∀ os : List (Option Int), inV .non (os.map optV) = os.any Option.isNone
  | [] => rfl
  | o :: os => by
    have ih := inV_opts os
    unfold inV at ih ⊢
    rw [List.map_cons, List.any_cons, List.any_cons, ih]
    cases o <;> rfl
theorem flat_opts (os : List (Option Int)) : (os.map optV).all flatV = true := by
  rw [List.all_eq_true]
  intro x hx
  obtain ⟨o, _, rfl⟩ := List.mem_map.mp hx
  cases o <;> rfl
theorem by_noneIn {neg : Bool} : By2 X C rE (rIn X.K neg) (gNoneIn neg) := fun {F O ρ σ H x y v u Q} R rx ry h => by
  cases x <;> first | exact h.elim | (cases y <;> first | exact h.elim | skip)
  obtain ⟨os, rfl, q⟩ := h
  obtain ⟨a, vs, rfl, _, t, r⟩ := ry
  rw [r.opts_inv] at t
  refine ⟨a, os.map optV, rfl, .inl (SqL.of t), by rw [show v = V.non from rx]; rfl, flat_opts os, ?_⟩
  rw [show v = V.non from rx, inV_opts]
  exact q _ _ _ (Stp.refl _ _ _) R rfl
theorem pd_noneNin (ha : PO X C a ta) (hb : PO X C b tb) (hm : behindInMarks .NotIn b = false := by with_unfolding_all rfl) : PD X C (.Compare a [.NotIn] [b] pos) (dBi (gNoneIn true) ta tb) := pv_2 (fun h h' => pe_cmpR op_notIn_seq h h' hm) by_noneIn mo_gNoneIn ha hb
theorem dt_noneNin (ha : PO X C a ta) (hb : PO X C b tb) (hm : behindInMarks .NotIn b = false := by with_unfolding_all rfl) : DT X C (.Compare a [.NotIn] [b] pos) (tTestD (dBi (gNoneIn true) ta tb)) := dt_2 (fun h h' => pt_cmpR op_notIn_seq h h' hm) by_noneIn mo_gNoneIn ha hb
/-! ### int(text) -/
def gIntS : D → (D → Prop) → Prop
  | .str a, P => ∃ n, PySem.intText? a = some n ∧ a.length ≤ 640 ∧ P (.int n)
  | _, _ => False
theorem mo_gIntS : Mo1 gIntS := fun x P P' k h => by cases x <;> first | exact h.elim | exact ⟨h.choose, h.choose_spec.1, h.choose_spec.2.1, k _ h.choose_spec.2.2⟩
theorem pd_intS (hg : Gl X "int") (hm : X.mg "int" = none) (he : PO X C e te) (hs : starEach [e] X.env = (false, eval e X.env) :: starEach [] X.env := by rfl) : PD X C (.Call (.Name "int" p) [e] [] pos) (dUn gIntS te) :=
  pv_t1 call_int_str (fun {F O ρ σ H x v Q} R rx h => by
    cases x <;> first | exact h.elim | skip
    obtain ⟨n, h1, h2, h3⟩ := h
    exact ⟨_, n, by rw [show v = _ from rx], h1, h2, h3 _ _ _ (Stp.refl _ _ _) R rfl⟩) mo_gIntS hg hm (by decide +kernel) he (hs := hs)
/-! ### list(text) -/
theorem vals_signs {z : Str} {acc : Array Value} (h : ItemsOf (SignAt z) acc z.cps.size) : Vals (z.cps.toList.map fun c => V.str ⟨#[c]⟩) acc.toList := by
  obtain ⟨h1, h2⟩ := h
  have key : ∀ (cs : List Nat) (vs : List Value), cs.length = vs.length → (∀ (j : Nat) (v : Value), vs[j]? = some v → ∃ c u, cs[j]? = some c ∧ v = Value.str ⟨#[c]⟩ u) → Vals (cs.map fun c => V.str ⟨#[c]⟩) vs := by
    intro cs
    induction cs with
    | nil => intro vs hl _; cases vs with | nil => exact .nil | cons => cases hl
    | cons c cs ih =>
      intro vs hl hv
      cases vs with
      | nil => cases hl
      | cons v vs =>
        obtain ⟨c', u, e1, e2⟩ := hv 0 v rfl
        have e1 : c = c' := by simpa using e1
        subst e1
        exact .cons ⟨u, e2⟩ (ih vs (by simpa using hl) fun j w hw => by
          obtain ⟨c', u, e1, e2⟩ := hv (j + 1) w hw
          exact ⟨c', u, by simpa using e1, e2⟩)
  refine key _ _ (by rw [Array.length_toList, Array.length_toList, h1]) fun j v hj => ?_
  rw [Array.getElem?_toList] at hj
  obtain ⟨c, u, e1, e2⟩ := h2 j v hj
  exact ⟨c, u, by rw [Array.getElem?_toList]; exact e1, e2⟩
theorem cr_listS (hc : X.calm = true) : CallR X (.type "list") (fun xs H Q => ∃ z : Str, xs = [.str z] ∧ z.cps.size ≤ sizeLine ∧ ∀ l, H l = none → Q (.ref l) (upd H l (.lst (z.cps.toList.map fun c => V.str ⟨#[c]⟩)))) := by
  intro pins s σ H xs us Q I r h
  obtain ⟨z, rfl, hz, q⟩ := h
  obtain ⟨u, rfl, rx⟩ := vals1 r
  obtain ⟨t, rfl⟩ := rx
  refine PySem.call_list_str (I.ok.hd hc) z t (fun h' tk acc' c' kp e it => ?_) hz
  refine ⟨.ref s.heap.objs.size, _, I.laid (t' := tk) kp (Nat.le_refl _) (show ObjOk X.prog X.w _ h' _ (.lst (z.cps.toList.map fun c => V.str ⟨#[c]⟩)) from ⟨by rw [List.length_map, Array.length_toList]; exact hz, acc'.toList, c', vals_signs it, by rw [e]⟩), rfl, q _ (I.hok.fresh (Nat.le_refl _))⟩
def gListS : D → (D → Prop) → Prop
  | .str z, P => z.cps.size ≤ sizeLine ∧ P (.list (signsD z))
  | _, _ => False
theorem mo_gListS : Mo1 gListS := fun x P P' k h => by cases x <;> first | exact h.elim | exact ⟨h.1, k _ h.2⟩
theorem pf_listS (hg : Gl X "list") (hm : X.mg "list" = none) (he : PO X C e te) (hc : X.calm = true := by rfl) (hs : starEach [e] X.env = (false, eval e X.env) :: starEach [] X.env := by rfl) : PF X C (.Call (.Name "list" p) [e] [] pos) (dUn gListS te) :=
  pv_t1 (cr_listS hc) (fun {F O ρ σ H x v Q} R rx h => by
    cases x <;> first | exact h.elim | skip
    rename_i z
    refine ⟨z, by rw [show v = _ from rx], h.1, fun l n => ?_⟩
    have e : signsD z = (z.cps.toList.map fun c => (⟨#[c]⟩ : Str)).map PyData.str := by unfold signsD; rw [List.map_map]; rfl
    have e2 : (z.cps.toList.map fun c => V.str ⟨#[c]⟩) = (z.cps.toList.map fun c => (⟨#[c]⟩ : Str)).map V.str := by rw [List.map_map]; rfl
    rw [e2]
    obtain ⟨s, R', r'⟩ := new_lst R (RdL.strs (z.cps.toList.map fun c => (⟨#[c]⟩ : Str))) n
    rw [← e] at r'
    exact h.2 _ _ _ s R' r') mo_gListS hg hm (by decide +kernel) he (hs := hs)
/-! ### module constants that are texts -/
theorem pd_globS {x : Str} {z : Str} {t : Tok} (hg : Gl X x) (hm : X.mg x = some (.str z t)) (hd : (x == ("__debug__" : Str)) = false := by decide) : PD X C (.Name x pos) (tCD (.str z)) := pd_c (pe_glob (v := .str z) hg hm ⟨t, rfl⟩ hd) fun _ _ _ => rfl
end
end DL

set_option exponentiation.threshold 3000
namespace Z
open PySem PySem.Spec PyProof.Rows L2 DL
/-! ### sums over lists of places -/
def sm (l : List Nat) (f : Nat → Int) : Int := (l.map f).sum
theorem sm_nil (f : Nat → Int) : sm [] f = 0 := rfl
theorem sm_cons (i : Nat) (l : List Nat) (f : Nat → Int) : sm (i :: l) f = f i + sm l f := by unfold sm; rw [List.map_cons, List.sum_cons]
theorem sm_app (l r : List Nat) (f : Nat → Int) : sm (l ++ r) f = sm l f + sm r f := by
  induction l with
  | nil => rw [List.nil_append, sm_nil, Int.zero_add]
  | cons i l ih => rw [List.cons_append, sm_cons, sm_cons, ih, Int.add_assoc]
theorem sm_congr {l : List Nat} {f g : Nat → Int} (h : ∀ i ∈ l, f i = g i) : sm l f = sm l g := by
  induction l with
  | nil => rfl
  | cons i l ih => rw [sm_cons, sm_cons, h i List.mem_cons_self, ih fun j hj => h j (List.mem_cons_of_mem _ hj)]
theorem sm_add (l : List Nat) (f g : Nat → Int) : sm l (fun i => f i + g i) = sm l f + sm l g := by
  induction l with
  | nil => rfl
  | cons i l ih => rw [sm_cons, sm_cons, sm_cons, ih]; omega
theorem sm_mul (l : List Nat) (f : Nat → Int) (c : Int) : sm l (fun i => f i * c) = sm l f * c := by
  induction l with
  | nil => rw [sm_nil, sm_nil, Int.zero_mul]
  | cons i l ih => rw [sm_cons, sm_cons, ih, Int.add_mul]
theorem sm_mull (l : List Nat) (f : Nat → Int) (c : Int) : sm l (fun i => c * f i) = c * sm l f := by
  rw [Int.mul_comm, ← sm_mul]
  exact sm_congr fun i _ => Int.mul_comm _ _
theorem sm_zero {l : List Nat} {f : Nat → Int} (h : ∀ i ∈ l, f i = 0) : sm l f = 0 := by
  induction l with
  | nil => rfl
  | cons i l ih => rw [sm_cons, h i List.mem_cons_self, ih fun j hj => h j (List.mem_cons_of_mem _ hj)]; rfl
theorem sm_swap (l r : List Nat) (F : Nat → Nat → Int) : sm l (fun i => sm r fun j => F i j) = sm r fun j => sm l fun i => F i j := by
  induction l with
  | nil => rw [sm_nil]; exact (sm_zero fun _ _ => rfl).symm
  | cons i l ih =>
    rw [sm_cons, ih, ← sm_add]
    exact sm_congr fun j _ => (sm_cons i l fun i => F i j).symm
theorem sm_perm {l r : List Nat} (h : l.Perm r) (f : Nat → Int) : sm l f = sm r f := by
  induction h with
  | nil => rfl
  | cons x _ ih => rw [sm_cons, sm_cons, ih]
  | swap x y l => rw [sm_cons, sm_cons, sm_cons, sm_cons]; omega
  | trans _ _ h1 h2 => exact h1.trans h2
theorem sm_filter (l : List Nat) (p : Nat → Bool) (f : Nat → Int) (h : ∀ i ∈ l, p i = false → f i = 0) : sm l f = sm (l.filter p) f := by
  induction l with
  | nil => rfl
  | cons i l ih =>
    have ih := ih fun j hj => h j (List.mem_cons_of_mem _ hj)
    cases e : p i with
    | true => rw [List.filter_cons_of_pos e, sm_cons, sm_cons, ih]
    | false => rw [List.filter_cons_of_neg (by rw [e]; decide), sm_cons, h i List.mem_cons_self e, Int.zero_add, ih]
theorem sm_within {n : Nat} {l : List Nat} {f : Nat → Int} (nd : l.Nodup) (hl : ∀ i ∈ l, i < n) (h : ∀ i, i < n → i ∉ l → f i = 0) : sm (List.range n) f = sm l f := by
  rw [sm_filter (List.range n) (fun i => decide (i ∈ l)) f fun i hi e => h i (List.mem_range.mp hi) (of_decide_eq_false e)]
  refine sm_perm ?_ f
  refine (List.perm_ext_iff_of_nodup (List.Nodup.sublist List.filter_sublist List.nodup_range) nd).mpr fun i => ?_
  rw [List.mem_filter, List.mem_range, decide_eq_true_eq]
  exact ⟨fun z => z.2, fun z => ⟨hl i z, z⟩⟩
theorem sm_flat (L : List (List Nat)) (f : Nat → Int) : sm L.flatten f = (L.map fun l => sm l f).sum := by
  induction L with
  | nil => rfl
  | cons l L ih => rw [List.flatten_cons, sm_app, ih, List.map_cons, List.sum_cons]
theorem sm_succ (n : Nat) (f : Nat → Int) : sm (List.range (n + 1)) f = sm (List.range n) f + f n := by
  rw [List.range_succ, sm_app, sm_cons, sm_nil, Int.add_zero]
/-! ### weights -/
abbrev S (n : Nat) (f : Nat → Int) : Int := sm (List.range n) f
/-- the sum of the table at two rows -/
def Bq (M : Nat → Nat → Int) (n : Nat) (x y : Nat → Int) : Int := S n fun i => S n (fun j => M i j * x j) * y i
theorem Bq_sum (M : Nat → Nat → Int) (n : Nat) (x y : Nat → Int) : Bq M n x y = S n fun i => S n fun j => M i j * x j * y i :=
  sm_congr fun i _ => (sm_mul _ _ _).symm
theorem Bq_sym {M : Nat → Nat → Int} {n : Nat} (hM : ∀ i j, i < n → j < n → M i j = M j i) (x y : Nat → Int) : Bq M n x y = Bq M n y x := by
  rw [Bq_sum, Bq_sum]
  show sm (List.range n) (fun i => sm (List.range n) fun j => M i j * x j * y i) = _
  rw [sm_swap]
  refine sm_congr fun j hj => sm_congr fun i hi => ?_
  rw [hM i j (List.mem_range.mp hi) (List.mem_range.mp hj), Int.mul_right_comm]
theorem Bq_addr (M : Nat → Nat → Int) (n : Nat) (x y z : Nat → Int) : Bq M n x (fun i => y i + z i) = Bq M n x y + Bq M n x z := by
  unfold Bq
  rw [← sm_add]
  exact sm_congr fun i _ => Int.mul_add _ _ _
theorem Bq_addl (M : Nat → Nat → Int) (n : Nat) (x y z : Nat → Int) : Bq M n (fun i => y i + z i) x = Bq M n y x + Bq M n z x := by
  unfold Bq
  rw [← sm_add]
  refine sm_congr fun i _ => ?_
  rw [← Int.add_mul, ← sm_add]
  congr 1
  exact sm_congr fun j _ => Int.mul_add _ _ _
theorem Bq_negr (M : Nat → Nat → Int) (n : Nat) (x y : Nat → Int) : Bq M n x (fun i => -y i) = -Bq M n x y := by
  unfold Bq
  rw [← Int.mul_neg_one, ← sm_mul]
  refine sm_congr fun i _ => ?_
  rw [Int.mul_neg_one, Int.mul_neg]
theorem Bq_negl (M : Nat → Nat → Int) (n : Nat) (x y : Nat → Int) : Bq M n (fun i => -x i) y = -Bq M n x y := by
  unfold Bq
  rw [← Int.mul_neg_one, ← sm_mul]
  refine sm_congr fun i _ => ?_
  rw [Int.mul_neg_one, ← Int.neg_mul]
  congr 1
  rw [← Int.mul_neg_one, ← sm_mul]
  refine sm_congr fun j _ => ?_
  rw [Int.mul_neg_one, Int.mul_neg]
theorem Bq_two {M : Nat → Nat → Int} {n : Nat} (hM : ∀ i j, i < n → j < n → M i j = M j i) (x y : Nat → Int) :
    Bq M n (fun i => x i + y i) (fun i => x i + y i) = Bq M n x x + Bq M n y y + 2 * Bq M n x y ∧ Bq M n (fun i => x i + y i) (fun i => x i + y i) + Bq M n (fun i => x i + -y i) (fun i => x i + -y i) = 2 * (Bq M n x x + Bq M n y y) := by
  have s := Bq_sym hM x y
  rw [Bq_addl, Bq_addr, Bq_addr, Bq_addl, Bq_addr, Bq_addr, Bq_negl, Bq_negl, Bq_negr, Bq_negr, ← s]
  constructor <;> omega
/-- the weight as the law reckons it -/
theorem law_weight {M : Nat → Nat → Int} {n : Nat} (hM : ∀ i j, i < n → j < n → M i j = M j i) (R : Nat → Int) : ∀ k, k ≤ n → S k (fun i => M i i * R i * R i + S i fun j => 2 * M i j * R i * R j) = Bq M k R R := by
  intro k
  induction k with
  | zero => intro _; rfl
  | succ k ih =>
    intro hk
    have ih : sm (List.range k) (fun i => M i i * R i * R i + S i fun j => 2 * M i j * R i * R j) = Bq M k R R := ih (by omega)
    unfold Bq
    show sm (List.range (k + 1)) _ = sm (List.range (k + 1)) _
    rw [sm_succ, sm_succ, ih]
    have e1 : sm (List.range k) (fun i => S (k + 1) (fun j => M i j * R j) * R i) = Bq M k R R + sm (List.range k) (fun i => M k i * R i * R k) := by
      unfold Bq
      rw [← sm_add]
      refine sm_congr fun i hi => ?_
      have hi := List.mem_range.mp hi
      show sm (List.range (k + 1)) _ * R i = _
      rw [sm_succ, Int.add_mul, hM i k (by omega) (by omega), Int.mul_right_comm (M k i)]
    rw [e1]
    show _ = _ + sm (List.range (k + 1)) _ * R k
    rw [sm_succ, Int.add_mul, ← sm_mul]
    have e2 : S k (fun j => 2 * M k j * R k * R j) = sm (List.range k) (fun i => M k i * R i * R k) + sm (List.range k) (fun i => M k i * R i * R k) := by
      rw [← sm_add]
      refine sm_congr fun j _ => ?_
      rw [Int.mul_right_comm (2 * M k j), Int.mul_assoc 2, Int.mul_assoc 2]
      omega
    rw [e2]
    omega
theorem nd_flat : ∀ {L : List (List Nat)}, L.flatten.Nodup → ∀ l ∈ L, l.Nodup
  | [], _, l, h => by cases h
  | x :: L, nd, l, h => by
    rw [List.flatten_cons] at nd
    have q := List.nodup_append.mp nd
    rcases List.mem_cons.mp h with rfl | h
    · exact q.1
    · exact nd_flat q.2.1 l h
/-- the weight by parts -/
theorem parts_weight {M : Nat → Nat → Int} {n : Nat} {L : List (List Nat)} (hp : L.flatten.Perm (List.range n)) (hz : ∀ l ∈ L, ∀ i ∈ l, ∀ j, j < n → j ∉ l → M i j = 0) (R : Nat → Int) :
    (L.map fun l => sm l fun i => sm l (fun j => M i j * R j) * R i).sum = Bq M n R R := by
  have nd : L.flatten.Nodup := hp.nodup_iff.mpr List.nodup_range
  have e : (L.map fun l => sm l fun i => sm l (fun j => M i j * R j) * R i) = L.map fun l => sm l fun i => S n (fun j => M i j * R j) * R i := by
    refine List.map_congr_left fun l hl => sm_congr fun i hi => ?_
    have ndl : l.Nodup := nd_flat nd l hl
    have hlt : ∀ j ∈ l, j < n := fun j hj => List.mem_range.mp (hp.mem_iff.mp (List.mem_flatten.mpr ⟨l, hl, hj⟩))
    rw [← sm_within (f := fun j => M i j * R j) ndl hlt fun j hj hn => by rw [hz l hl i hi j hj hn, Int.zero_mul]]
  rw [e, ← sm_flat, sm_perm hp]
  rfl
/-! ### lists and places -/
def dot : List Int → List Int → Int
  | x :: xs, y :: ys => x * y + dot xs ys
  | _, _ => 0
theorem dot_map (l : List Nat) (f g : Nat → Int) : dot (l.map f) (l.map g) = sm l fun i => f i * g i := by
  induction l with
  | nil => rfl
  | cons i l ih => rw [sm_cons, ← ih]; rfl
def at0 (r : List Int) (i : Nat) : Int := r.getD i 0
theorem at0_list (r : List Int) : r = (List.range r.length).map (at0 r) := by
  apply List.ext_getElem
  · simp
  · intro i h1 h2
    simp [at0, h1]
def entry (m : List (List Int)) (i j : Nat) : Int := at0 (m.getD i []) j
structure Sq (m : List (List Int)) (n : Nat) : Prop where
  len : m.length = n
  row : ∀ r ∈ m, r.length = n
theorem sq_list {m : List (List Int)} {n : Nat} (h : Sq m n) : m = (List.range n).map fun i => (List.range n).map (entry m i) := by
  apply List.ext_getElem
  · simp [h.len]
  · intro i h1 h2
    have hi : i < n := by rw [← h.len]; exact h1
    rw [List.getElem_map, List.getElem_range]
    have e : m.getD i [] = m[i] := by simp [h1]
    have hr := h.row m[i] (List.getElem_mem h1)
    have := at0_list m[i]
    rw [hr] at this
    unfold entry
    rw [e]
    exact this
def img (m : List (List Int)) (r : List Int) : List Int := m.map fun row => dot row r
def wgt (m : List (List Int)) (r : List Int) : Int := dot (img m r) r
theorem img_eq {m : List (List Int)} {n : Nat} {r : List Int} (h : Sq m n) (hr : r.length = n) : img m r = (List.range n).map fun i => S n fun j => entry m i j * at0 r j := by
  unfold img
  rw [congrArg (List.map fun row => dot row r) (sq_list h), List.map_map]
  refine List.map_congr_left fun i _ => ?_
  show dot ((List.range n).map (entry m i)) r = _
  have e := at0_list r
  rw [hr] at e
  rw [congrArg (dot _) e, dot_map]
theorem dot_S {n : Nat} {r : List Int} (hr : r.length = n) (f : Nat → Int) : dot ((List.range n).map f) r = S n fun i => f i * at0 r i := by
  have e := at0_list r
  rw [hr] at e
  rw [congrArg (dot _) e, dot_map]
theorem wgt_eq {m : List (List Int)} {n : Nat} {r : List Int} (h : Sq m n) (hr : r.length = n) : wgt m r = Bq (entry m) n (at0 r) (at0 r) := by
  unfold wgt
  rw [img_eq h hr, dot_S hr]
  rfl
theorem by_eq {m : List (List Int)} {n : Nat} {x y : List Int} (h : Sq m n) (hx : x.length = n) (hy : y.length = n) : dot (img m x) y = Bq (entry m) n (at0 x) (at0 y) := by
  rw [img_eq h hx, dot_S hy]
  rfl
theorem dot_comm : ∀ x y : List Int, dot x y = dot y x
  | [], [] => rfl
  | [], _ :: _ => rfl
  | _ :: _, [] => rfl
  | a :: x, b :: y => by show a * b + dot x y = b * a + dot y x; rw [dot_comm x y, Int.mul_comm]
/-- the part of a table, of a row -/
def cutT (m : List (List Int)) (l : List Nat) : List (List Int) := l.map fun i => l.map (entry m i)
def cutR (r : List Int) (l : List Nat) : List Int := l.map (at0 r)
theorem wgt_cut (m : List (List Int)) (r : List Int) (l : List Nat) : wgt (cutT m l) (cutR r l) = sm l fun i => sm l (fun j => entry m i j * at0 r j) * at0 r i := by
  unfold wgt img cutT cutR
  rw [List.map_map]
  have e : (l.map ((fun row => dot row (l.map (at0 r))) ∘ fun i => l.map (entry m i))) = l.map fun i => sm l fun j => entry m i j * at0 r j := List.map_congr_left fun i _ => dot_map l _ _
  rw [e, dot_map]
/-- the opposite -/
def opp (m : List (List Int)) : List (List Int) := m.map fun r => r.map fun x => -x
theorem dot_neg : ∀ x y : List Int, dot (x.map fun a => -a) y = -dot x y
  | [], _ => rfl
  | _ :: _, [] => rfl
  | a :: x, b :: y => by
    show -a * b + dot (x.map fun a => -a) y = -(a * b + dot x y)
    rw [dot_neg x y, Int.neg_mul]
    omega
theorem img_opp (m : List (List Int)) (r : List Int) : img (opp m) r = (img m r).map fun a => -a := by
  unfold img opp
  rw [List.map_map, List.map_map]
  exact List.map_congr_left fun x _ => dot_neg x r
theorem wgt_opp (m : List (List Int)) (r : List Int) : wgt (opp m) r = -wgt m r := by
  unfold wgt
  rw [img_opp, dot_neg]
end Z

set_option maxHeartbeats 1000000
namespace Z
open PySem PySem.Spec PyProof.Rows L2 NumText TL
/-! ### numbers as texts: plain -/
abbrev fig : Str := "0123456789"
theorem fig_list : (fig : Str).cps.toList = [48, 49, 50, 51, 52, 53, 54, 55, 56, 57] := by decide +kernel
theorem fig_mem {c : Nat} : c ∈ (fig : Str).cps.toList ↔ 48 ≤ c ∧ c ≤ 57 := by
  rw [fig_list]
  simp only [List.mem_cons, List.not_mem_nil, or_false]
  omega
theorem cutS_1 (z : Str) : tl (cutS z none (some 1)) = (tl z).take 1 := by
  unfold cutS
  show (((tl z).drop (HT.sIx z.length 0 none)).take (HT.sIx z.length z.length (some 1) - HT.sIx z.length 0 none)) = _
  rw [HT.sIx_none, List.drop_zero, Nat.sub_zero, show (1 : Int) = ((1 : Nat) : Int) from rfl, HT.sIx_nat, len_tl z, List.take_eq_take_iff]
  omega
theorem cutS_d (z : Str) : tl (cutS z (some 1) none) = (tl z).drop 1 := by
  unfold cutS
  show (((tl z).drop (HT.sIx z.length 0 (some 1))).take (HT.sIx z.length z.length none - HT.sIx z.length 0 (some 1))) = _
  rw [HT.sIx_none, show (1 : Int) = ((1 : Nat) : Int) from rfl, HT.sIx_nat, len_tl z]
  have e : (tl z).drop (min 1 (tl z).length) = (tl z).drop 1 := by
    rcases Nat.lt_or_ge (tl z).length 1 with h | h
    · rw [Nat.min_eq_right (by omega), List.drop_of_length_le (Nat.le_refl _), List.drop_of_length_le (by omega)]
    · rw [Nat.min_eq_left h]
  rw [e]
  exact List.take_of_length_le (by rw [List.length_drop]; omega)
abbrev minus : Str := "-"
abbrev zero : Str := "0"
theorem minus_tl : tl minus = [45] := by decide +kernel
theorem zero_tl : tl zero = [48] := by decide +kernel
def digs (w : Str) : Str := if cutS w none (some 1) = minus then cutS w (some 1) none else w
def hd0 (d : Str) : Bool := decide ((tl d).head? = some 48)
def allDig (d : Str) : Bool := (tl d).all fun c => decide (c ∈ (fig : Str).cps.toList)
def numB (w : Str) : Bool := !decide (digs w = "") && (allDig (digs w) && (decide (w = zero) || !hd0 (digs w)))
theorem foldl_lt : ∀ (cs : List Nat) (a : Nat), AllDigits cs → cs.foldl (fun acc c => acc * 10 + (c - 48)) a < (a + 1) * 10 ^ cs.length
  | [], a, _ => by show a < (a + 1) * 1; omega
  | c :: cs, a, h => by
    have hc := h c List.mem_cons_self
    have ih := foldl_lt cs (a * 10 + (c - 48)) h.tail
    rw [List.foldl_cons, List.length_cons, Nat.pow_succ, Nat.mul_comm (10 ^ cs.length), ← Nat.mul_assoc]
    exact Nat.lt_of_lt_of_le ih (Nat.mul_le_mul_right _ (by omega))
theorem val_lt {cs : List Nat} (h : AllDigits cs) : digitsVal cs < 10 ^ cs.length := by
  have := foldl_lt cs 0 h
  rw [Nat.zero_add, Nat.one_mul] at this
  exact this
theorem can_num {cs : List Nat} (h : AllDigits cs) (hne : cs ≠ []) (hc : cs.length = 1 ∨ cs.head? ≠ some 48) : numL (digitsVal cs) = cs := by
  have key := toDigits_digitsVal (cs.length - 1) cs (by have := List.length_pos_iff.mpr hne; omega) h (by
    rcases hc with hc | hc
    · left; omega
    · right
      cases cs with
      | nil => exact absurd rfl hne
      | cons c r =>
        have h1 := h c List.mem_cons_self
        refine ⟨c, r, rfl, ?_⟩
        have : c ≠ 48 := fun z => hc (by rw [z]; rfl)
        omega)
  unfold numL
  rw [key, List.map_map]
  have e : ∀ (ds : List Nat), AllDigits ds → ds.map (Char.toNat ∘ Char.ofNat) = ds := by
    intro ds
    induction ds with
    | nil => intro _; rfl
    | cons d ds ih =>
      intro h
      rw [List.map_cons, ih h.tail]
      congr 1
      have h1 := h d List.mem_cons_self
      have : ∀ k : Nat, 48 ≤ k → k ≤ 57 → (Char.ofNat k).toNat = k := by
        intro k h1 h2
        have : k = 48 ∨ k = 49 ∨ k = 50 ∨ k = 51 ∨ k = 52 ∨ k = 53 ∨ k = 54 ∨ k = 55 ∨ k = 56 ∨ k = 57 := by omega
        rcases this with rfl | rfl | rfl | rfl | rfl | rfl | rfl | rfl | rfl | rfl <;> rfl
      exact this d h1.1 h1.2
  exact e cs h
theorem tl_neg {v : Nat} (hv : 0 < v) : tl (Str.ofString (toString (-(v : Int)))) = 45 :: numL v := by
  obtain ⟨m, rfl⟩ : ∃ m, v = m + 1 := ⟨v - 1, by omega⟩
  have e : toString (-((m + 1 : Nat) : Int)) = "-" ++ toString ((m + 1 : Nat) : Int) := rfl
  rw [e, Str.ofString_eq_toList]
  show ("-" ++ toString ((m + 1 : Nat) : Int)).toList.map Char.toNat = _
  rw [String.toList_append, List.map_append]
  have e2 : (toString ((m + 1 : Nat) : Int)).toList.map Char.toNat = numL (m + 1) := by
    have := tl_num (m + 1)
    rw [Str.ofString_eq_toList] at this
    exact this
  rw [e2]
  rfl
structure NumOk (w : Str) (n : Int) : Prop where
  rd : intText? w = some n
  len : w.length ≤ 22
  sd : n.natAbs < 10 ^ 21
  tx : Str.ofString (toString n) = w
theorem num_spec {w : Str} (h : numB w = true) (hl : (digs w).length ≤ 21) : ∃ n, NumOk w n := by
  unfold numB at h
  obtain ⟨h1, h2⟩ := Bool.and_eq_true_iff.mp h
  obtain ⟨h2, h3⟩ := Bool.and_eq_true_iff.mp h2
  have hd : AllDigits (tl (digs w)) := fun c hc => by
    have := List.all_eq_true.mp h2 c hc
    exact fig_mem.mp (of_decide_eq_true this)
  have hne : tl (digs w) ≠ [] := fun z => by
    have : digs w = "" := ext_tl (z.trans (show [] = tl ("" : Str) by decide +kernel))
    rw [decide_eq_true this] at h1
    cases h1
  rw [len_tl] at hl
  have hv := val_lt hd
  have hv2 : digitsVal (tl (digs w)) < 10 ^ 21 := Nat.lt_of_lt_of_le hv (Nat.pow_le_pow_right (by decide) hl)
  by_cases hm : cutS w none (some 1) = minus
  · have e : digs w = cutS w (some 1) none := by unfold digs; rw [if_pos hm]
    have e1 : (tl w).take 1 = [45] := by rw [← cutS_1, hm, minus_tl]
    have e2 : tl (digs w) = (tl w).drop 1 := by rw [e, cutS_d]
    have e3 : tl w = 45 :: tl (digs w) := by rw [e2, ← List.take_append_drop 1 (tl w), e1]; simp
    have hw0 : ¬ w = zero := fun z => by
      rw [z, zero_tl] at e3
      exact absurd (List.cons.inj e3).1 (by decide)
    rw [decide_eq_false hw0, Bool.false_or] at h3
    have hh : (tl (digs w)).head? ≠ some 48 := fun z => by
      unfold hd0 at h3
      rw [decide_eq_true z] at h3
      cases h3
    generalize tl (digs w) = cs at *
    have hpos : 0 < digitsVal cs := by
      cases cs with
      | nil => exact absurd rfl hne
      | cons c r =>
        have h1 := hd c List.mem_cons_self
        have : c ≠ 48 := fun z => hh (by rw [z]; rfl)
        exact digitsVal_pos (by omega)
    have hlw : w.length ≤ 22 := by rw [len_tl, e3, List.length_cons]; omega
    refine ⟨-((digitsVal cs : Nat) : Int), intText_neg e3 hd hne (by omega), hlw, by rw [Int.natAbs_neg]; exact hv2, ?_⟩
    exact ext_tl (by rw [tl_neg hpos, can_num hd hne (.inr hh), e3])
  · have e : digs w = w := by unfold digs; rw [if_neg hm]
    rw [e] at hd hne hl hv2 h3
    have hlw : w.length ≤ 22 := by rw [len_tl]; omega
    refine ⟨((digitsVal (tl w) : Nat) : Int), intText_digits hd hne (by omega), hlw, hv2, ?_⟩
    refine ext_tl ?_
    rw [tl_num]
    refine can_num hd hne ?_
    rcases Bool.or_eq_true_iff.mp h3 with z | z
    · left
      rw [of_decide_eq_true z, zero_tl]
      rfl
    · right
      intro y
      unfold hd0 at z
      rw [decide_eq_true y] at z
      cases z
/-- a number's own text -/
theorem digs_nat (n : Nat) : digs (Str.ofString (toString ((n : Nat) : Int))) = Str.ofString (toString ((n : Nat) : Int)) := by
  unfold digs
  refine if_neg fun z => ?_
  have h := congrArg tl z
  rw [cutS_1, minus_tl, tl_num] at h
  have hd := numL_digits n
  cases e : numL n with
  | nil => exact numL_ne n e
  | cons c r =>
    rw [e] at h hd
    have : c = 45 := (List.cons.inj h).1
    have := hd c List.mem_cons_self
    omega
theorem digs_neg {v : Nat} (hv : 0 < v) : tl (digs (Str.ofString (toString (-(v : Int))))) = numL v := by
  have e : digs (Str.ofString (toString (-(v : Int)))) = cutS (Str.ofString (toString (-(v : Int)))) (some 1) none := by
    unfold digs
    refine if_pos (ext_tl ?_)
    rw [cutS_1, tl_neg hv, minus_tl]
    rfl
  rw [e, cutS_d, tl_neg hv]
  rfl
theorem numL_len {n k : Nat} (h : n < 10 ^ k) (hk : 0 < k) : (numL n).length ≤ k := by
  induction k generalizing n with
  | zero => omega
  | succ k ih =>
    by_cases h10 : n < 10
    · rw [numL_lt h10]; show 1 ≤ k + 1; omega
    · rw [numL_step (by omega), List.length_append]
      have hk2 : 0 < k := by
        rcases Nat.eq_zero_or_pos k with z | z
        · subst z; omega
        · exact z
      have := ih (n := n / 10) (by rw [Nat.pow_succ] at h; omega) hk2
      show _ + 1 ≤ k + 1
      omega
theorem own_digs {i : Int} (h : i.natAbs < 10 ^ 21) : (digs (Str.ofString (toString i))).length ≤ 21 := by
  rw [len_tl]
  rcases Int.lt_or_le i 0 with hi | hi
  · obtain ⟨v, rfl⟩ : ∃ v : Nat, i = -(v : Int) := ⟨i.natAbs, by omega⟩
    rw [digs_neg (by omega)]
    exact numL_len (by rw [Int.natAbs_neg] at h; exact h) (by decide)
  · obtain ⟨v, rfl⟩ : ∃ v : Nat, i = (v : Int) := ⟨i.natAbs, by omega⟩
    rw [digs_nat, tl_num]
    exact numL_len h (by decide)
end Z

set_option maxHeartbeats 4000000
namespace DL
open PySem PySem.Spec PyProof.Rows L2
/-! ### what may be shown: a bound for the text, one for the depth -/
structure SB (n e : Nat) (d : D) : Prop where
  s : d.showable = true
  dp : d.depth ≤ e
  l : d.shown.length ≤ n
theorem SB.shw {n e : Nat} {d : D} (h : SB n e d) (hn : n ≤ 16000000) (he : e ≤ 60) : Shw d := ⟨h.s, Nat.le_trans h.dp he, Nat.le_trans h.l (Nat.le_trans hn (by decide))⟩
theorem SB.le {n e n' e' : Nat} {d : D} (h : SB n e d) (hn : n ≤ n') (he : e ≤ e') : SB n' e' d := ⟨h.s, Nat.le_trans h.dp he, Nat.le_trans h.l hn⟩
theorem int_text (i : Int) {k : Nat} (hk : 0 < k) (h : i.natAbs < 10 ^ k) : (Str.ofString (toString i)).length ≤ k + 1 := by
  have nn : ∀ m : Nat, m < 10 ^ k → (Str.ofString (toString (m : Int))).length ≤ k := fun m hm =>
    toString_length_le (by omega) hk (by
      have e : (10 : Int) ^ k = ((10 ^ k : Nat) : Int) := by rw [Int.natCast_pow]; rfl
      rw [e]; omega)
  cases i with
  | ofNat m => exact Nat.le_trans (nn m h) (Nat.le_succ _)
  | negSucc m =>
    have e : toString (Int.negSucc m) = "-" ++ toString ((m + 1 : Nat) : Int) := rfl
    have := nn (m + 1) h
    rw [e, PyProof.Rows.ofString_length, String.toList_append, List.length_append]
    rw [PyProof.Rows.ofString_length] at this
    show 1 + _ ≤ _
    omega
theorem sb_int {i : Int} (h : Sm 1900 i) : SB 601 0 (.int i) := ⟨by
    simp only [PyData.showable, decide_eq_true_eq]
    exact log2_small (Nat.lt_of_lt_of_le h (Nat.pow_le_pow_right (by decide) (by decide))), Nat.le_refl _, by
    have h2 : i.natAbs < 10 ^ 600 := Nat.lt_of_lt_of_le h (by decide +kernel)
    exact int_text i (by decide) h2⟩
theorem sb_none : SB 601 0 .none := ⟨rfl, Nat.le_refl _, by decide +kernel⟩
theorem sb_bool (b : Bool) : SB 601 0 (.bool b) := ⟨rfl, Nat.le_refl _, by cases b <;> decide +kernel⟩
theorem sb_str {x : Str} (hx : ∀ c ∈ x.cps.toList, c < 16 ^ 8) (hl : x.length ≤ 700) : SB 7002 0 (.str x) := ⟨rfl, Nat.le_refl _, by
  have := StrLaws.reprText_len x hx
  show (reprText x).length ≤ 7002
  omega⟩
theorem ofString_cps (x : String) : ∀ c ∈ (Str.ofString x).cps.toList, c < 16 ^ 8 := by
  rw [Str.ofString_eq_toList]
  intro c hc
  have hc : c ∈ x.toList.map Char.toNat := by simpa using hc
  obtain ⟨ch, _, rfl⟩ := List.mem_map.mp hc
  have h := ch.valid
  have h2 : ch.toNat < 1114112 := by
    rcases h with h | ⟨_, h⟩
    · exact Nat.lt_trans h (by decide)
    · exact h
  omega
theorem sb_itext {i : Int} (h : Sm 1900 i) : SB 7002 0 (.str (Str.ofString (toString i))) := sb_str (ofString_cps _) (Nat.le_trans (int_text i (k := 600) (by decide) (Nat.lt_of_lt_of_le h (by decide +kernel))) (by decide))
theorem shownAll_len : ∀ ds : List D, (PyData.shownAll ds).length = ds.length
  | [] => rfl
  | d :: ds => by simp [PyData.shownAll, shownAll_len ds]
theorem sb_all {n e : Nat} : ∀ ds : List D, (∀ d ∈ ds, SB n e d) → PyData.showableAll ds = true ∧ PyData.depthAll ds ≤ e ∧ piled (PyData.shownAll ds) ≤ (n + 2) * ds.length
  | [], _ => ⟨rfl, Nat.zero_le _, Nat.zero_le _⟩
  | d :: ds, h => by
    obtain ⟨h1, h2, h3⟩ := sb_all ds fun x hx => h x (List.mem_cons_of_mem _ hx)
    obtain ⟨s, dd, l⟩ := h d List.mem_cons_self
    refine ⟨?_, ?_, ?_⟩
    · show (d.showable && PyData.showableAll ds) = true
      rw [s, h1]
      rfl
    · show max d.depth (PyData.depthAll ds) ≤ e
      omega
    · show piled (d.shown :: PyData.shownAll ds) ≤ _
      rw [piled_cons, List.length_cons, Nat.mul_add]
      omega
theorem join_le (ts : List Str) : (Str.join ", " ts).length ≤ piled ts := by
  by_cases h : ts = []
  · subst h; exact Nat.le_refl _
  · have := join_length_add ts h
    omega
theorem sb_tup {n e : Nat} {ds : List D} (h : ∀ d ∈ ds, SB n e d) : SB ((n + 2) * ds.length + 3) (e + 1) (.tuple ds) := by
  obtain ⟨h1, h2, h3⟩ := sb_all ds h
  refine ⟨h1, Nat.succ_le_succ h2, ?_⟩
  show (tupleText (PyData.shownAll ds)).length ≤ _
  unfold tupleText
  rw [strLen_append, strLen_append]
  have := join_le (PyData.shownAll ds)
  have e1 : (Str.ofString "(").length = 1 := rfl
  have e2 : (Str.ofString (if (PyData.shownAll ds).length == 1 then ",)" else ")")).length ≤ 2 := by split <;> decide
  omega
theorem textFrom_le : ∀ (ts : List Str) (k : Nat) (acc : Str), (textFrom k acc ts).length ≤ acc.length + piled ts
  | [], k, acc => Nat.le_refl _
  | t :: ts, k, acc => by
    have := textFrom_le ts (k + 1) (acc ++ (if k > 0 then ", " else "" : String) ++ t)
    rw [strLen_append, strLen_append] at this
    have e : (Str.ofString (if k > 0 then ", " else "")).length ≤ 2 := by split <;> decide
    rw [piled_cons]
    show (textFrom (k + 1) (acc ++ (if k > 0 then ", " else "" : String) ++ t) ts).length ≤ _
    omega
theorem sb_list {n e : Nat} {ds : List D} (h : ∀ d ∈ ds, SB n e d) : SB ((n + 2) * ds.length + 3) (e + 1) (.list ds) := by
  obtain ⟨h1, h2, h3⟩ := sb_all ds h
  refine ⟨h1, Nat.succ_le_succ h2, ?_⟩
  show (listText (PyData.shownAll ds)).length ≤ _
  unfold listText
  rw [strLen_append]
  have := textFrom_le (PyData.shownAll ds) 0 "["
  have e1 : (Str.ofString "[").length = 1 := rfl
  have e2 : (Str.ofString "]").length = 1 := rfl
  omega
theorem sb_kv {n e : Nat} : ∀ ks : List (D × D), (∀ p ∈ ks, SB n e p.1 ∧ SB n e p.2) → PyData.showableKv ks = true ∧ PyData.depthKv ks ≤ e ∧ piled (PyData.shownKv ks) ≤ (2 * n + 4) * ks.length
  | [], _ => ⟨rfl, Nat.zero_le _, Nat.zero_le _⟩
  | (k, v) :: ds, h => by
    obtain ⟨h1, h2, h3⟩ := sb_kv ds fun x hx => h x (List.mem_cons_of_mem _ hx)
    obtain ⟨⟨s, dd, l⟩, ⟨s', dd', l'⟩⟩ := h (k, v) List.mem_cons_self
    have s : k.showable = true := s
    have s' : v.showable = true := s'
    have dd : k.depth ≤ e := dd
    have dd' : v.depth ≤ e := dd'
    have l : k.shown.length ≤ n := l
    have l' : v.shown.length ≤ n := l'
    refine ⟨?_, ?_, ?_⟩
    · show (k.showable && v.showable && PyData.showableKv ds) = true
      rw [s, s', h1]
      rfl
    · show max (max k.depth v.depth) (PyData.depthKv ds) ≤ e
      omega
    · show piled ((k.shown ++ ": " ++ v.shown) :: PyData.shownKv ds) ≤ _
      rw [piled_cons, List.length_cons, Nat.mul_add, strLen_append, strLen_append]
      have e1 : (Str.ofString ": ").length = 2 := rfl
      omega
theorem sb_dict {n e : Nat} {ks : List (D × D)} (h : ∀ p ∈ ks, SB n e p.1 ∧ SB n e p.2) : SB ((2 * n + 4) * ks.length + 3) (e + 1) (.dict ks) := by
  obtain ⟨h1, h2, h3⟩ := sb_kv ks h
  refine ⟨h1, Nat.succ_le_succ h2, ?_⟩
  show (dictText (PyData.shownKv ks)).length ≤ _
  unfold dictText
  rw [strLen_append, strLen_append]
  have := join_le (PyData.shownKv ks)
  have e1 : (Str.ofString "{").length = 1 := rfl
  have e2 : (Str.ofString "}").length = 1 := rfl
  omega
end DL

namespace Z
open PySem PySem.Spec PyProof.Rows L2 DL

def top (i : Nat) : Stmt := PySem.Challenge.pw_withintwo_k09_texts_of_tables.main.body.getD i (.Pass ⟨0, 0, 0, 0⟩)
abbrev sDeck : Stmt := top 20
abbrev sDraw : Stmt := top 21
def deckAt (w : Wd) (H : Hp) (p l : Addr) (cells : List Int) (m n : Int) : Prop := H p = some (.dK [(.inr w.kc, .ref l), (.inr w.km, .int m), (.inr w.kd, .int n)]) ∧ H l = some (.lst (cells.map V.int))
def spDeck (K : PySem.W.Frag) (w : Wd) : Sp := fun vs H Q _ => ∃ (a : Addr) (ns : List Int), vs = [.ref a] ∧ SqL K H a (ns.map V.int) ∧ ns.length ≤ 63 ∧
  ∀ p l cells m H', Same H H' → H p = none → H l = none → p ≠ l → cells.length ≤ 63 → deckAt w H' p l cells m 0 → (∀ b ps, H' b = some (.tbl ps) → H b = some (.tbl ps)) → Q (.ref p) H'
section
variable {P : Program} {w : World} {K : PySem.W.Frag} {mg : Str → Option Value} {base : Heap}
abbrev nDeck : List Str := ["_law_script", "_law_mixed", "_law_cell"]
theorem scDeck : FnScope nDeck ["_law_script"] (defScope sDeck) := ⟨rfl, rfl, rfl, by decide +kernel, rfl, by decide +kernel, by decide +kernel⟩
theorem ok_deck {f : Addr} {fd : FuncData} (F : L2.Fun K "_law_deck" "_law_deck" sDeck f fd) (B : Blt mg) : FnOk P w K mg base (L2.CX P w) 1 f fd ["_law_script"] (spDeck K ⟨"cells", "mixed", "draws", []⟩) := by
  refine F.okX scDeck (fun vs H Q E ⟨a, ns, e, _⟩ => by rw [e]; rfl) fun cdv A outer s H vs Q E hr ⟨a, ns, e, hS, hl, k⟩ => ?_
  subst e
  have nd : nDeck.Nodup := scDeck.nd
  refine ⟨_, pss_cons (ps_set (i := 1) nd rfl (.inl rfl) pe_int) (pss_cons (ps_for (passes_of rfl) rfl (pi_list (pe_slice sl_list (pv 0) po_none (po_some pe_int))) (pg_name (i := 2) nd rfl (.inl rfl))
    (pss_one (ps_set (i := 1) nd rfl (.inl rfl) (pe_op op_mod (pe_callTy call_int1 (by rfl) B.int (by decide +kernel) (pa_cons (pe_op op_add (pe_op op_add (pe_op op_mul (pv 1) pe_int) (pe_op op_mod (pe_callTy call_int1 (by rfl) B.int (by decide +kernel) (pa_cons (pv 2) pa_nil)) pe_int)) pe_int) pa_nil)) pe_int))))
    (pss_one (ps_ret (pe_disp (pps_cons pe_str (pe_revL (pe_callTy call_list_of (by rfl) B.list (by decide +kernel) (pa_cons (pe_slice sl_list (pv 0) po_none (po_some pe_int)) pa_nil))) (pps_cons pe_str (pv 1) (pps_cons pe_str pe_int pps_nil))) rfl rfl (List.cons_ne_nil _ _) (by decide))))), ?_⟩
  have hcut : cutV (ns.map V.int) none (some 63) = ns.map V.int := by
    unfold cutV
    rw [HT.sIx_none, show (63 : Int) = ((63 : Nat) : Int) from rfl, HT.sIx_nat, List.drop_zero, Nat.sub_zero, List.take_of_length_le (by rw [List.length_map]; omega)]
  refine ⟨_, rfl, 63, rfl, a, _, rfl, hS, fun b0 n0 => ?_⟩
  rw [hcut]
  refine ⟨b0, rfl, ⟨_, SqL.of upd_same⟩, ?_⟩
  refine for_list (xs := ns.map V.int) (fun i σ H' => H' = upd H b0 (.lst (ns.map V.int)) ∧ ∃ m c, σ = [some (.ref a), some (.int m), c]) ⟨rfl, _, _, rfl⟩ (fun i σ H' _ ⟨e, _⟩ => by rw [e]; exact SqL.of upd_same) ?_ ?_
  · rintro i x σ H' ex ⟨rfl, m, c, rfl⟩
    obtain ⟨z, hz, rfl⟩ : ∃ z, ns[i]? = some z ∧ x = V.int z := by
      rw [List.getElem?_map] at ex
      cases e : ns[i]? with
      | none => rw [e] at ex; cases ex
      | some z => rw [e] at ex; exact ⟨z, rfl, (Option.some.inj ex).symm⟩
    refine ⟨_, rfl, m, _, rfl, rfl, .inr ⟨by decide, by decide⟩, _, rfl, .inl ⟨z, rfl, z, _, rfl, rfl, (by show (0 : Int) < _; decide), _, _, rfl, rfl, _, _, rfl, rfl, .inl ⟨_, rfl, _, _, rfl, rfl, (by show (0 : Int) < _; decide), ?_⟩⟩⟩
    exact ⟨rfl, _, _, rfl⟩
  · rintro σ H' ⟨rfl, m, c, rfl⟩
    have n1 : ∀ {b o}, H b = some o → b ≠ b0 := fun e z => by rw [z, n0] at e; cases e
    intro p np
    have hp : p ≠ b0 := fun z => by rw [z, upd_same] at np; cases np
    have np0 : H p = none := by rw [upd_ne hp] at np; exact np
    have hSx : ∀ {H2 : Hp}, Same H H2 → SqL K H2 a (ns.map V.int) := fun {H2} h => h.seq hS
    have sm1 : Same H (upd (upd H b0 (.lst (ns.map V.int))) p (.dK [])) := fun b o e => by rw [upd_ne (ne_of_none e np0), upd_ne (ne_of_none e n0)]; exact e
    refine ⟨_, rfl, 63, rfl, a, _, rfl, hSx sm1, fun b1 n2 => ?_⟩
    rw [hcut]
    have hb1 : H b1 = none := by
      cases e : H b1 with
      | none => rfl
      | some o => rw [sm1 _ _ e] at n2; cases n2
    have p1 : p ≠ b1 := fun z => by rw [← z, upd_same] at n2; cases n2
    refine ⟨b1, _, rfl, .inl (SqL.of upd_same), fun l1 n3 => ⟨l1, _, rfl, SqL.of upd_same, fun l n4 => ?_⟩⟩
    have hl1 : H l1 = none ∧ p ≠ l1 := by
      refine ⟨?_, fun z => ?_⟩
      · cases e : H l1 with
        | none => rfl
        | some o => rw [upd_ne (ne_of_none e hb1), sm1 _ _ e] at n3; cases n3
      · rw [← z, upd_ne p1, upd_same] at n3; cases n3
    have hl : H l = none ∧ p ≠ l := by
      refine ⟨?_, fun z => ?_⟩
      · cases e : H l with
        | none => rfl
        | some o => rw [upd_ne (ne_of_none e hl1.1), upd_ne (ne_of_none e hb1), sm1 _ _ e] at n4; cases n4
      · rw [← z, upd_ne hl1.2, upd_ne p1, upd_same] at n4; cases n4
    refine ⟨_, rfl, ?_⟩
    refine ⟨?_, [(.inr "cells", .ref l), (.inr "mixed", .int m), (.inr "draws", .int 0)], rfl, (by show 3 ≤ 15; decide), ?_⟩
    · rw [upd_ne hl.2, upd_ne hl1.2, upd_ne p1, upd_same]
    · refine k p l ns.reverse m _ (fun b o e => ?_) np0 hl.1 hl.2 (by rw [List.length_reverse]; omega) ⟨?_, ?_⟩ fun b ps e => ?_
      · rw [upd_ne (ne_of_none e np0), upd_ne (ne_of_none e hl.1), upd_ne (ne_of_none e hl1.1), upd_ne (ne_of_none e hb1)]
        exact sm1 _ _ e
      · rw [upd_same]
        rfl
      · rw [upd_ne (Ne.symm hl.2), upd_same, List.map_reverse]
      · by_cases z : b = p
        · rw [z, upd_same] at e; cases e
        · rw [upd_ne z] at e
          by_cases z : b = l
          · rw [z, upd_same] at e; cases e
          · rw [upd_ne z] at e
            by_cases z : b = l1
            · rw [z, upd_same] at e; cases e
            · rw [upd_ne z] at e
              by_cases z : b = b1
              · rw [z, upd_same] at e; cases e
              · rw [upd_ne z, upd_ne ‹b ≠ p›] at e
                by_cases z : b = b0
                · rw [z, upd_same] at e; cases e
                · rw [upd_ne z] at e; exact e
end
end Z

namespace Z
open PySem PySem.Spec PyProof.Rows L2 DL
/-- draw(deck, n): some number from 0 to n - 1 -/
def FdDraw : FD := ⟨fun as P _ => ∃ n : Int, as = [.deck, .dat (.int n)] ∧ 1 ≤ n ∧ n < 1073741824 ∧ ∀ r, 0 ≤ r → r < n → P (.int r),
  fun as P P' Z Z' k _ ⟨n, e, h1, h2, h3⟩ => ⟨n, e, h1, h2, fun r a b => k _ (h3 r a b)⟩⟩
abbrev dkv (l : Addr) (m c : Int) : List (Key × V) := [(.inr "cells", .ref l), (.inr "mixed", .int m), (.inr "draws", .int c)]
theorem ne_cm : ¬ ((.inr "cells" : Key) = .inr "mixed") := by decide +kernel
theorem ne_cd : ¬ ((.inr "cells" : Key) = .inr "draws") := by decide +kernel
theorem ne_md : ¬ ((.inr "mixed" : Key) = .inr "draws") := by decide +kernel
theorem dk_cells (l : Addr) (m c : Int) : valV (dkv l m c) (.inr "cells") = some (.ref l) := by rw [valV_pos rfl]
theorem dk_mixed (l : Addr) (m c : Int) : valV (dkv l m c) (.inr "mixed") = some (.int m) := by rw [valV_neg ne_cm, valV_pos rfl]
theorem dk_draws (l : Addr) (m c : Int) : valV (dkv l m c) (.inr "draws") = some (.int c) := by rw [valV_neg ne_cd, valV_neg ne_md, valV_pos rfl]
theorem dk_put (l : Addr) (m c c' : Int) : putK (dkv l m c) (.inr "draws") (.int c') = dkv l m c' := by
  unfold putK
  have h : (dkv l m c).any (fun kv => decide (kv.1 = (.inr "draws" : Key))) = true := by simp
  rw [if_pos h]
  show [if (.inr "cells" : Key) = .inr "draws" then _ else _, if (.inr "mixed" : Key) = .inr "draws" then _ else _, if (.inr "draws" : Key) = .inr "draws" then _ else _] = _
  rw [if_neg ne_cd, if_neg ne_md, if_pos rfl]
theorem get_of {H : Hp} {p : Addr} {l : Addr} {m c : Int} {x : Str} {v : V} (e : H p = some (.dK (dkv l m c))) (h : valV (dkv l m c) (.inr x) = some v) : DGet H p (.str x) (some v) := by
  rw [← h]
  exact DGet.k (k := .inr x) e
theorem dg {x : Str} {σ : L2.St} {H : Hp} {Q : VK} {p l : Addr} {m c : Int} {v : V} (h : σ[0]? = some (some (.ref p))) (e : H p = some (.dK (dkv l m c))) (hv : valV (dkv l m c) (.inr x) = some v) (k : Q v H) : tDGet (tVar 0) (tC (.str x)) σ H Q := ⟨_, h, _, _, rfl, get_of e hv, k⟩
theorem iteB {b : Bool} {A B : Prop} (hb : b = true) (h : A) : if b = true then A else B := by rw [if_pos hb]; exact h
theorem iteN {b : Bool} {A B : Prop} (hb : b = false) (h : B) : if b = true then A else B := by rw [if_neg (by simp [hb])]; exact h
/-- the deck as it stands while one draws -/
structure Dn (q : Dq) (H H' : Hp) (cells : List Int) (m c : Int) : Prop where
  p : H' q.p = some (.dK (dkv q.l m c))
  l : H' q.l = some (.lst (cells.map V.int))
  n : cells.length ≤ 63
  k : ∀ b o, H b = some o → b ≠ q.p → b ≠ q.l → H' b = some o
section
variable {q : Dq} {H H' : Hp} {cells cells' : List Int} {m c c' : Int} {S : Addr → Prop} {T : List (Addr × Str)}
theorem Dn.ne (d : Dn q H H' cells m c) : q.p ≠ q.l := fun z => by
  have e := d.p
  rw [z, d.l] at e
  cases e
theorem Dn.kx (h : ∃ o, H q.p = some o ∧ ∀ ps, o ≠ .tbl ps) (h' : ∃ o, H q.l = some o ∧ ∀ ps, o ≠ .tbl ps) (d : Dn q H H' cells m c) : KpX q H H' :=
  ⟨fun b o e h1 h2 _ => d.k b o e h1 h2, fun b o e hb => by
    by_cases z : b = q.p
    · rw [z]; exact ⟨_, d.p, fun ps z => nomatch z⟩
    · by_cases y : b = q.l
      · rw [y]; exact ⟨_, d.l, fun ps z => nomatch z⟩
      · exact ⟨o, d.k b o e z y, hb⟩⟩
theorem Dn.new (d : Dn q H H' cells m c) {a : Addr} {o : HO} (n : H' a = none) : Dn q H (upd H' a o) cells m c :=
  ⟨(upd_ne (ne_of_none d.p n)).trans d.p, (upd_ne (ne_of_none d.l n)).trans d.l, d.n, fun b u e h1 h2 => (upd_ne (ne_of_none (d.k b u e h1 h2) n)).trans (d.k b u e h1 h2)⟩
theorem Dn.lst (d : Dn q H H' cells m c) (h : cells'.length ≤ 63) : Dn q H (upd H' q.l (.lst (cells'.map V.int))) cells' m c :=
  ⟨(upd_ne d.ne).trans d.p, upd_same, h, fun b u e h1 h2 => (upd_ne h2).trans (d.k b u e h1 h2)⟩
theorem Dn.drw (d : Dn q H H' cells m c) : Dn q H (upd H' q.p (.dK (dkv q.l m c'))) cells m c' :=
  ⟨upd_same, (upd_ne (Ne.symm d.ne)).trans d.l, d.n, fun b u e h1 h2 => (upd_ne h1).trans (d.k b u e h1 h2)⟩
theorem Dn.end_ {cells0 : List Int} {m0 c0 : Int} (d0 : Dn q H H cells0 m0 c0) (d : Dn q H H' cells m c) (hw : q.w = ⟨"cells", "mixed", "draws", T⟩) (hs : ∃ o φ, H sysModules = some (.frz o (.ext φ))) (ht : LamX.Tabs q.w.T H) (hf : FzOk q S H) :
    Stp q S S H H' ∧ DkOk q H' ∧ LamX.Tabs q.w.T H' ∧ FzOk q S H' := by
  have np : ∀ {b o}, H b = some o → (∀ kvs, o ≠ .dK kvs) → (∀ xs, o ≠ .lst xs) → H' b = some o := fun {b o} e h1 h2 => d.k b o e (fun z => by rw [z, d0.p] at e; cases e; exact h1 _ rfl) fun z => by rw [z, d0.l] at e; cases e; exact h2 _ rfl
  have kx : KpX q H H' := d.kx ⟨_, d0.p, fun ps z => nomatch z⟩ ⟨_, d0.l, fun ps z => nomatch z⟩
  obtain ⟨o, φ, e⟩ := hs
  refine ⟨⟨kx, fun _ h => h, fun _ h => .inl h⟩, ⟨cells, m, c, by rw [hw]; exact d.p, d.l, d.n, o, φ, np e (fun _ z => nomatch z) (fun _ z => nomatch z)⟩, fun p hp => ?_, fun a ha => ?_⟩
  · obtain ⟨ps, h1, h2, h3⟩ := ht p hp
    refine ⟨ps, np h1 (fun _ z => nomatch z) (fun _ z => nomatch z), h2, fun pos cv hc => ?_⟩
    obtain ⟨c1, e1, e2⟩ := h3 pos cv hc
    exact ⟨c1, e1, np e2 (fun _ z => by unfold LamX.CodeO at z; cases z) (fun _ z => by unfold LamX.CodeO at z; cases z)⟩
  · obtain ⟨h1, h2, h3, h4⟩ := hf a ha
    exact ⟨h1, h2, th_of kx h3 h4⟩
end
section
variable {P : Program} {w : World} {K : PySem.W.Frag} {mg : Str → Option Value} {base : Heap}
abbrev nDraw : List Str := ["_law_deck_here", "_law_many", "_law_number_here", "_law_cell"]
theorem scDraw : FnScope nDraw ["_law_deck_here", "_law_many"] (defScope sDraw) := ⟨rfl, rfl, rfl, by decide +kernel, rfl, by decide +kernel, by decide +kernel⟩
theorem ok_draw {f : Addr} {fd : FuncData} (T : List (Addr × Str)) (F : L2.Fun K "_law_draw" "_law_draw" sDraw f fd) (B : Blt mg) : FnOk P w K mg base (L2.CX P w) 1 f fd ["_law_deck_here", "_law_many"] (spD K ⟨"cells", "mixed", "draws", T⟩ FdDraw) := by
  have hlen : ∀ vs H Q E, spD K ⟨"cells", "mixed", "draws", T⟩ FdDraw vs H Q E → vs.length = 2 := fun vs H Q E ⟨q, S, as, _, _, _, _, ra, n, e, _⟩ => by rw [ra.len, e]; rfl
  refine F.okX scDraw hlen fun cdv A outer s H vs Q E hr ⟨q, S, as, hw, hd, ht, hf, ra, n, e, hn1, hn2, k⟩ => ?_
  subst e
  obtain ⟨v1, r1, e1, h1, v2, r2, e2, h2, e3⟩ := ra
  have h1 : v1 = .ref q.p := h1
  have h2 : v2 = .int n := h2
  have e3 : r2 = [] := e3
  subst h1 h2 e3 e2 e1
  have nd : nDraw.Nodup := scDraw.nd
  have hu := hu_of hr
  have hu64 := room_u hr
  refine ⟨_, pss_cons (ps_asg (pe_op op_add (pe_dget hu (pv 0) pe_str (fun _ _ => rfl)) pe_int) (pg_sub (pv 0) pe_str (set_dict hu)))
    (pss_cons (ps_set (i := 2) nd rfl (.inl rfl) (pe_op op_add (pe_dget hu (pv 0) pe_str (fun _ _ => rfl)) (pe_op op_mul pe_int (pe_dget hu (pv 0) pe_str (fun _ _ => rfl)))))
    (pss_cons (ps_if (pt_cmpR (op_neNil hu64) (pe_dget hu (pv 0) pe_str (fun _ _ => rfl)) (pe_lst pa_nil) (nomark _))
        (pss_cons (ps_set (i := 3) nd rfl (.inl rfl) (pe_bm0 PySem.F.plainAttrs_list PySem.F.slot_list_pop PySem.F.type_list_pop mt_pop (pe_dget hu (pv 0) pe_str (fun _ _ => rfl))))
        (pss_cons (ps_if (pt_cmpR op_ge (pv 3) (pe_op op_pow pe_int pe_int) (nomark _))
            (pss_cons (ps_expr (pe_bm PySem.F.plainAttrs_list PySem.F.slot_list_append PySem.F.type_list_append mt_append (pe_dget hu (pv 0) pe_str (fun _ _ => rfl))
                (pa_cons (pe_op op_fdiv (pv 3) (pe_callB (call_max2 rfl) (by rfl) B.max (by decide +kernel) (pa_cons pe_int (pa_cons (pv 1) pa_nil)))) pa_nil)))
              (pss_one (ps_ret (pe_op op_mod (pe_callTy call_int1 (by rfl) B.int (by decide +kernel) (pa_cons (pv 3) pa_nil)) (pv 1))))) pss_nil)
        (pss_one (ps_set (i := 2) nd rfl (.inl rfl) (pe_op op_add (pv 2) (pe_op op_mod (pe_callTy call_int1 (by rfl) B.int (by decide +kernel) (pa_cons (pv 3) pa_nil)) pe_int)))))) pss_nil)
    (pss_cons (ps_set (i := 2) nd rfl (.inl rfl) (pe_op op_mod (pe_callTy call_int1 (by rfl) B.int (by decide +kernel) (pa_cons (pe_op op_add (pe_op op_mul (pv 2) pe_int) pe_int) pa_nil)) pe_int))
    (pss_cons (ps_set (i := 2) nd rfl (.inl rfl) (pe_op op_mod (pe_callTy call_int1 (by rfl) B.int (by decide +kernel) (pa_cons (pe_op op_add (pe_op op_add (pe_op op_mul (pv 2) (pv 2)) (pe_op op_mul pe_int (pe_dget hu (pv 0) pe_str (fun _ _ => rfl)))) pe_int) pa_nil)) pe_int))
    (pss_cons (ps_set (i := 2) nd rfl (.inl rfl) (pe_op op_mod (pe_callTy call_int1 (by rfl) B.int (by decide +kernel) (pa_cons (pe_op op_mul (pv 2) pe_int) pa_nil)) pe_int))
    (pss_one (ps_ret (pe_op op_mod (pe_callTy call_int1 (by rfl) B.int (by decide +kernel) (pa_cons (pe_op op_fdiv (pv 2) pe_int) pa_nil)) (pv 1))))))))), ?_⟩
  obtain ⟨cells, m, c, dp, dl, dn, hs⟩ := hd
  have d0 : Dn q H H cells m c := ⟨by rw [hw] at dp; exact dp, dl, dn, fun b o e _ _ => e⟩
  have fin : ∀ {H' : Hp} {cells' : List Int} {m' c' r : Int}, Dn q H H' cells' m' c' → 0 ≤ r → r < n → Q (.int r) H' := fun {H' cells' m' c' r} d h1 h2 => by
    obtain ⟨a1, a2, a3, a4⟩ := d0.end_ d hw hs (by rw [hw]; exact ht) hf
    exact k r h1 h2 _ _ _ a1 a2 (by rw [hw] at a3; exact a3) a4 rfl
  have hmod : ∀ i : Int, 0 ≤ i % n ∧ i % n < n := fun i => ⟨Int.emod_nonneg _ (by omega), Int.emod_lt_of_pos _ (by omega)⟩
  refine ⟨_, rfl, _, _, rfl, get_of d0.p (dk_draws _ _ _), c, 1, rfl, rfl, ?_⟩
  refine ⟨_, rfl, _, _, rfl, DPut.k (k := .inr "draws") d0.p (by show 3 < sizeLine; decide), ?_⟩
  rw [dk_put]
  have d1 : Dn q H (upd H q.p (.dK (dkv q.l m (c + 1)))) cells m (c + 1) := d0.drw
  generalize upd H q.p (.dK (dkv q.l m (c + 1))) = H1 at d1 ⊢
  refine ⟨_, rfl, _, _, rfl, get_of d1.p (dk_mixed _ _ _), _, rfl, _, _, rfl, get_of d1.p (dk_draws _ _ _), 61473, _, rfl, rfl, .inl ⟨by decide, by decide⟩, _, _, rfl, rfl, ?_⟩
  generalize m + 61473 * (c + 1) = x1
  refine ⟨_, rfl, _, _, rfl, get_of d1.p (dk_cells _ _ _), Nat.zero_le _, fun b0 nb => ?_⟩
  have d2 : Dn q H (upd H1 b0 (.lst [])) cells m (c + 1) := d1.new nb
  have hb0 : upd H1 b0 (.lst []) b0 = some (.lst []) := upd_same
  generalize upd H1 b0 (.lst []) = H2 at d2 hb0 ⊢
  refine ⟨q.l, b0, _, rfl, rfl, SqL.of d2.l, hb0, _, rfl, ?_⟩
  have tail : ∀ {D : Ends} {σ : L2.St} {H' : Hp} {cells' : List Int} {x : Int} {o : Option V}, D.rt = Q → Dn q H H' cells' m (c + 1) → σ = [some (.ref q.p), some (.int n), some (.int x), o] → True := fun _ _ _ => True.intro
  have snoc : cells = [] ∨ ∃ ys z, cells = ys ++ [z] := by
    rcases List.eq_nil_or_concat cells with h | ⟨ys, z, h⟩
    · exact .inl h
    · exact .inr ⟨ys, z, by rw [h, List.concat_eq_append]⟩
  rcases snoc with rfl | ⟨ys, z, rfl⟩
  · refine iteN (by simp) ?_
    refine ⟨_, rfl, _, _, rfl, rfl, .inr ⟨by decide, by decide⟩, _, _, rfl, rfl, .inl ⟨_, rfl, _, _, rfl, rfl, (by show (0 : Int) < _; decide), ?_⟩⟩
    have hx2 : ∀ i : Int, -(2 ^ 64) < i % 2147483647 ∧ i % 2147483647 < 2 ^ 64 := fun i => ⟨by have := Int.emod_nonneg i (b := 2147483647) (by decide); omega, by have := Int.emod_lt_of_pos i (b := 2147483647) (by decide); omega⟩
    refine ⟨_, rfl, _, rfl, _, _, rfl, rfl, .inl (hx2 _), _, rfl, _, _, rfl, get_of d2.p (dk_draws _ _ _), _, _, rfl, rfl, .inl ⟨by decide, by decide⟩, _, _, rfl, rfl, _, _, rfl, rfl, .inl ⟨_, rfl, _, _, rfl, rfl, (by show (0 : Int) < _; decide), ?_⟩⟩
    refine ⟨_, rfl, _, _, rfl, rfl, .inr ⟨by decide, by decide⟩, .inl ⟨_, rfl, _, _, rfl, rfl, (by show (0 : Int) < _; decide), ?_⟩⟩
    exact ⟨_, rfl, _, _, rfl, rfl, ⟨by decide, by decide⟩, .inl ⟨_, rfl, _, rfl, _, n, rfl, rfl, by omega, fin d2 (hmod _).1 (hmod _).2⟩⟩
  · refine iteB (by simp) ?_
    refine ⟨_, rfl, _, _, rfl, get_of d2.p (dk_cells _ _ _), .inl ⟨rfl, _, SqL.of d2.l⟩, q.l, _, .int z, rfl, rfl, d2.l, ?_, ?_⟩
    · simp
    · have hdl : ((ys ++ [z]).map V.int).dropLast = ys.map V.int := by simp
      rw [hdl]
      have d3 : Dn q H (upd H2 q.l (.lst (ys.map V.int))) ys m (c + 1) := d2.lst (by have := d2.n; simp at this; omega)
      generalize upd H2 q.l (.lst (ys.map V.int)) = H3 at d3 ⊢
      refine ⟨_, rfl, 10, 18, rfl, rfl, ⟨by decide, by decide, by decide⟩, z, _, rfl, rfl, _, rfl, ?_⟩
      by_cases hz : (10 : Int) ^ (18 : Int).toNat ≤ z
      · refine iteB (by simpa using hz) ?_
        refine ⟨_, rfl, _, _, rfl, get_of d3.p (dk_cells _ _ _), .inl ⟨rfl, _, SqL.of d3.l⟩, _, rfl, _, rfl, 2, n, rfl, z, _, rfl, rfl, ?_, q.l, _, _, rfl, rfl, d3.l, ?_, ?_⟩
        · constructor
          · split <;> omega
          · split <;> omega
        · have := d2.n
          simp at this
          rw [List.length_map, sizeLine_eq]
          omega
        · have d4 := d3.lst (cells' := ys ++ [z / (if n > 2 then n else 2)]) (by have := d2.n; simp at this; simp; omega)
          rw [List.map_append] at d4
          refine ⟨_, rfl, .inl ⟨z, rfl, _, rfl, z, n, rfl, rfl, by omega, fin d4 (hmod z).1 (hmod z).2⟩⟩
      · refine iteN (by simpa using hz) ?_
        refine ⟨_, rfl, _, rfl, .inl ⟨z, rfl, z, _, rfl, rfl, (by show (0 : Int) < _; decide), _, _, rfl, rfl, ?_⟩⟩
        refine ⟨_, rfl, _, _, rfl, rfl, .inr ⟨by decide, by decide⟩, _, _, rfl, rfl, .inl ⟨_, rfl, _, _, rfl, rfl, (by show (0 : Int) < _; decide), ?_⟩⟩
        have hx2 : ∀ i : Int, -(2 ^ 64) < i % 2147483647 ∧ i % 2147483647 < 2 ^ 64 := fun i => ⟨by have := Int.emod_nonneg i (b := 2147483647) (by decide); omega, by have := Int.emod_lt_of_pos i (b := 2147483647) (by decide); omega⟩
        refine ⟨_, rfl, _, rfl, _, _, rfl, rfl, .inl (hx2 _), _, rfl, _, _, rfl, get_of d3.p (dk_draws _ _ _), _, _, rfl, rfl, .inl ⟨by decide, by decide⟩, _, _, rfl, rfl, _, _, rfl, rfl, .inl ⟨_, rfl, _, _, rfl, rfl, (by show (0 : Int) < _; decide), ?_⟩⟩
        refine ⟨_, rfl, _, _, rfl, rfl, .inr ⟨by decide, by decide⟩, .inl ⟨_, rfl, _, _, rfl, rfl, (by show (0 : Int) < _; decide), ?_⟩⟩
        exact ⟨_, rfl, _, _, rfl, rfl, ⟨by decide, by decide⟩, .inl ⟨_, rfl, _, rfl, _, n, rfl, rfl, by omega, fin d3 (hmod _).1 (hmod _).2⟩⟩
end
end Z

namespace Z
open PySem PySem.Spec PyProof.Rows L2 DL
def CT : Addr := 44
def CX : Addr := 63
abbrev s_Ltold : Stmt := top 30
abbrev LCl : List Cl := [(CX, "at", "text"), (CT, "thing", "table")]
structure TOF (K : PySem.W.Frag) (mg : Str → Option Value) : Prop extends ToldMF K mg "_law_told" "_law_deed" "e" s_Ltold LCl where
  m1 : mg "BadText" = some (.ref CX)
  m2 : mg "BadTable" = some (.ref CT)
theorem pd_toldMZ {X : Cx} {C : Ct} {cc PP : Addr} {k : Nat} {params : Arguments} {body : Expr} {scope : Scope} {tb : XP → TED} {p lpos pos : Pos} (T : TOF X.K X.mg) (LF : LamF X.mg X.base C.q.w X.env.qual X.env.code cc PP) (hr : Room k X.A) (hk2 : 2 ≤ k)
    (hg : Gl X "_law_told") (LS : LamX.LamS X.env.scope scope) (hdef : defaultsOf params X.env = ([], []))
    (hbind : ∀ (q : Str) (cl : List (Str × Addr)) (pm cv ctv : Value), bindArgs (PySem.W.kla_fn "<lambda>" q params body scope cl pm cv ctv) ⟨[], []⟩ = pure [])
    (hbody : ∀ (A : Around) (outer : List Env) (s : Shared) (H : Hp) (E : XK) (f c' : Addr) (C' : Ct) (px : XP), C'.q = C.q → Room (k - 2) (A.deeper (LamX.lamEnv X scope s.heap.objs.size f c')) → XO (LamX.lamCx X A outer s H E scope f c') C' px (L2.CX X.prog X.w) E →
      PD (LamX.lamCx X A outer s H E scope f c') C' body (tb px)) (hxmo : XM tb) (hmo : ∀ px, MonoE (tb px)) :
    PD X C (.Call (.Name "_law_told" p) [.Lambda params body scope lpos] [] pos) (tToldM tb LCl "told") :=
  pd_toldMF T.toToldMF LF hr hk2 hg (fun g cdv => told_asM (s0 := "told") (en := "e") (fun _ => rfl) (by decide +kernel) rfl (by rfl) (by decide) (by decide) (fun _ => rfl) (fun _ => rfl)
      (ThL.cons (e := "BadText") (p := (CX, "at", "text")) (by rfl) T.m1 (by decide) (T.xf _ (.head _)).1 (T.xf _ (.head _)).2 (fun _ => rfl) (fun _ => rfl) (fun _ => rfl)
        (ThL.cons (e := "BadTable") (p := (CT, "thing", "table")) (by rfl) T.m2 (by decide) (T.xf _ (.tail _ (.head _))).1 (T.xf _ (.tail _ (.head _))).2 (fun _ => rfl) (fun _ => rfl) (fun _ => rfl) .nil)))
    (.inl (by rfl)) LS hdef hbind hbody hxmo hmo (by decide) (by decide) (by decide)
end Z

namespace Z
open PySem PySem.Spec PyProof.Rows L2 DL
def isWh : D → Bool
  | .int _ => true
  | _ => false
def iTup (ns : List Int) : D := .tuple (ns.map .int)
/-! ### lists of ints under loops by index -/
theorem rangeD_succ (lo c : Int) (n : Nat) : rangeD lo c (n + 1) = .int lo :: rangeD (lo + c) c n := by
  unfold rangeD
  rw [List.range_succ_eq_map, List.map_cons, List.map_map]
  congr 1
  · simp
  · apply List.map_congr_left
    intro i _
    show PyData.int _ = PyData.int _
    congr 1
    show lo + ((i + 1 : Nat) : Int) * c = lo + c + (i : Int) * c
    rw [Int.natCast_add, Int.add_mul]
    simp
    omega
theorem at_mid (L : List D) (x : D) (r : List D) : L2.atI (L ++ x :: r) (L.length : Int) = some x := L2.atI_nat (by simp)
theorem at_mid1 (L : List D) (x y : D) (r : List D) : L2.atI (L ++ x :: y :: r) ((L.length : Int) + 1) = some y := by
  have : L2.atI (L ++ x :: y :: r) ((L.length + 1 : Nat) : Int) = some y := L2.atI_nat (by simp)
  exact this
theorem ix_mid (L : List D) (x : D) (r : List D) : L2.ixN (L ++ x :: r).length (L.length : Int) = some L.length := by
  unfold L2.ixN
  rw [if_pos (by omega), if_pos (by simp; omega)]
  simp
theorem set_mid (L : List D) (x y : D) (r : List D) : (L ++ x :: r).set L.length y = L ++ y :: r := by simp
def il (ns : List Int) : List D := ns.map .int
theorem il_app (a b : List Int) : il (a ++ b) = il a ++ il b := List.map_append
theorem il_len (a : List Int) : (il a).length = a.length := List.length_map _
def ilist (ns : List Int) : D := .list (il ns)
/-! ### comprehensions whose items are known -/
theorem comp_pure {g : Tgt} {tt : TTD} {te : TED} {ρ : List Slot} {P : D → Prop} (f : D → Option D) : ∀ (ds acc : List D),
    (∀ d ∈ ds, ∀ R : Option D → Prop, R (f d) → bindT g d ρ fun ρ2 => tt ρ2 fun b => if b = true then te ρ2 fun y => R (some y) else R none) →
    acc.length + ds.length ≤ sizeLine → P (.list (acc ++ ds.filterMap f)) → compD g tt te ρ ds acc P
  | [], acc, _, _, h => by
    rw [List.filterMap_nil, List.append_nil] at h
    exact h
  | d :: ds, acc, hs, hl, h => by
    have hl' : acc.length + (ds.length + 1) ≤ sizeLine := hl
    refine hs d List.mem_cons_self (fun o => match o with
      | some y => acc.length < sizeLine ∧ compD g tt te ρ ds (acc ++ [y]) P
      | none => compD g tt te ρ ds acc P) ?_
    have ht : ∀ x ∈ ds, ∀ R : Option D → Prop, R (f x) → bindT g x ρ fun ρ2 => tt ρ2 fun b => if b = true then te ρ2 fun y => R (some y) else R none := fun x hx => hs x (List.mem_cons_of_mem _ hx)
    cases e : f d with
    | none =>
      rw [List.filterMap_cons_none e] at h
      exact comp_pure f ds acc ht (by omega) h
    | some y =>
      rw [List.filterMap_cons_some e] at h
      refine ⟨by omega, comp_pure f ds (acc ++ [y]) ht (by simp; omega) ?_⟩
      rw [List.append_assoc]
      exact h
/-- what a comprehension may give if its items are told by a relation -/
def Outs (Rl : D → Option D → Prop) : List D → List D → Prop
  | [], ys => ys = []
  | d :: ds, ys => ∃ o, Rl d o ∧ ∃ r, Outs Rl ds r ∧ ys = o.toList ++ r
theorem comp_rel {g : Tgt} {tt : TTD} {te : TED} {ρ : List Slot} {P : D → Prop} (Rl : D → Option D → Prop) : ∀ (ds acc : List D),
    (∀ d ∈ ds, ∀ R : Option D → Prop, (∀ o, Rl d o → R o) → bindT g d ρ fun ρ2 => tt ρ2 fun b => if b = true then te ρ2 fun y => R (some y) else R none) →
    acc.length + ds.length ≤ sizeLine → (∀ ys, Outs Rl ds ys → P (.list (acc ++ ys))) → compD g tt te ρ ds acc P
  | [], acc, _, _, h => by
    have := h [] rfl
    rw [List.append_nil] at this
    exact this
  | d :: ds, acc, hs, hl, h => by
    have hl' : acc.length + (ds.length + 1) ≤ sizeLine := hl
    refine hs d List.mem_cons_self (fun o => match o with
      | some y => acc.length < sizeLine ∧ compD g tt te ρ ds (acc ++ [y]) P
      | none => compD g tt te ρ ds acc P) ?_
    have ht : ∀ x ∈ ds, ∀ R : Option D → Prop, (∀ o, Rl x o → R o) → bindT g x ρ fun ρ2 => tt ρ2 fun b => if b = true then te ρ2 fun y => R (some y) else R none := fun x hx => hs x (List.mem_cons_of_mem _ hx)
    intro o ho
    cases o with
    | none => exact comp_rel Rl ds acc ht (by omega) fun ys hy => h ys ⟨none, ho, ys, hy, rfl⟩
    | some y =>
      refine ⟨by omega, comp_rel Rl ds (acc ++ [y]) ht (by simp; omega) fun ys hy => ?_⟩
      have := h (y :: ys) ⟨some y, ho, ys, hy, rfl⟩
      rw [List.append_assoc]
      exact this
theorem ite_t {b : Bool} {α : Prop} {β : Prop} (h1 : b = true → α) (h2 : b = false → β) : if b = true then α else β := by
  cases b
  · exact h2 rfl
  · exact h1 rfl
def enumF : Nat → List D → List D
  | _, [] => []
  | k, d :: ds => .tuple [.int (k : Nat), d] :: enumF (k + 1) ds
theorem enumF_eq : ∀ (ds : List D) (k : Nat), enumF k ds = (List.range ds.length).map fun i => PyData.tuple [.int ((i + k : Nat) : Int), ds.getD i .none]
  | [], k => rfl
  | d :: ds, k => by
    rw [List.length_cons, List.range_succ_eq_map, List.map_cons, List.map_map]
    show PyData.tuple [.int ((k : Nat) : Int), d] :: enumF (k + 1) ds = _
    rw [enumF_eq ds (k + 1)]
    congr 1
    · rw [Nat.zero_add]; rfl
    · apply List.map_congr_left
      intro i _
      show PyData.tuple [.int ((i + (k + 1) : Nat) : Int), ds.getD i .none] = PyData.tuple [.int ((i + 1 + k : Nat) : Int), (d :: ds).getD (i + 1) .none]
      rw [show i + (k + 1) = i + 1 + k by omega]
      rfl
theorem enumD_F (ds : List D) : enumD ds = enumF 0 ds := (enumF_eq ds 0).symm
theorem enumF_mem {d : D} : ∀ {ts : List D} {k : Nat}, d ∈ enumF k ts → ∃ (i : Nat) (x : D), k ≤ i ∧ i < k + ts.length ∧ ts[i - k]? = some x ∧ d = .tuple [.int ((i : Nat) : Int), x]
  | [], _, h => nomatch h
  | t :: ts, k, h => by
    rcases List.mem_cons.mp h with rfl | h
    · exact ⟨k, t, Nat.le_refl _, by rw [List.length_cons]; omega, by rw [Nat.sub_self]; rfl, rfl⟩
    · obtain ⟨i, x, h1, h2, h3, rfl⟩ := enumF_mem h
      refine ⟨i, x, by omega, by rw [List.length_cons]; omega, ?_, rfl⟩
      rw [show i - k = (i - (k + 1)) + 1 by omega]
      exact h3
theorem enumF_len : ∀ (ts : List D) (k : Nat), (enumF k ts).length = ts.length
  | [], _ => rfl
  | t :: ts, k => by show (enumF (k + 1) ts).length + 1 = _; rw [enumF_len ts (k + 1)]; rfl
theorem sb_told : SB 601 0 (.str "told") := ⟨rfl, Nat.le_refl _, by decide +kernel⟩
theorem sb_pair {n e : Nat} {x d : D} (hx : SB 601 0 x) (hd : SB n e d) (hn : 601 ≤ n) : SB (2 * n + 7) (e + 1) (.tuple [x, d]) := (sb_tup (n := n) (e := e) (ds := [x, d]) (fun y hy => by
  simp only [List.mem_cons, List.not_mem_nil, or_false] at hy
  rcases hy with rfl | rfl
  · exact hx.le hn (Nat.zero_le _)
  · exact hd)).le (by show (n + 2) * 2 + 3 ≤ _; omega) (Nat.le_refl _)
theorem sb_two {n e : Nat} {x d : D} (hx : SB n e x) (hd : SB n e d) : SB (2 * n + 7) (e + 1) (.list [x, d]) := (sb_list (n := n) (e := e) (ds := [x, d]) (fun y hy => by
  simp only [List.mem_cons, List.not_mem_nil, or_false] at hy
  rcases hy with rfl | rfl <;> assumption)).le (by show (n + 2) * 2 + 3 ≤ _; omega) (Nat.le_refl _)
theorem forD_inv {g : Tgt} {tb : TSD} {D : EndsD} (Iv : List Slot → Prop) : ∀ (ds : List DL.D), (∀ d ∈ ds, ∀ ρ, Iv ρ → ∀ N : List Slot → Prop, (∀ ρ', Iv ρ' → N ρ') → bindT g d ρ fun ρ' => tb { D with nx := N, ct := N, bk := D.nx } ρ') → (∀ ρ, Iv ρ → D.nx ρ) → ∀ ρ, Iv ρ → forD g tb D ds ρ := by
  intro ds
  induction ds with
  | nil => intro _ he ρ h; exact he ρ h
  | cons d ds ih =>
    intro hb he ρ h
    exact hb d List.mem_cons_self ρ h _ (ih (fun x hx => hb x (List.mem_cons_of_mem _ hx)) he)
theorem outs_all {P : D → Prop} : ∀ (ds ys : List D), Outs (fun _ o => ∃ y, o = some y ∧ P y) ds ys → (∀ y ∈ ys, P y) ∧ ys.length = ds.length := by
  intro ds
  induction ds with
  | nil => intro ys e; rw [show ys = [] from e]; exact ⟨(fun y hy => nomatch hy), rfl⟩
  | cons d ds ih =>
    rintro ys ⟨o, ⟨y, rfl, a⟩, r, hr, rfl⟩
    obtain ⟨i1, i2⟩ := ih r hr
    exact ⟨fun z hz => by
      rcases List.mem_cons.mp hz with rfl | hz
      · exact a
      · exact i1 z hz, by show (y :: r).length = _; rw [List.length_cons, List.length_cons, i2]⟩
theorem cutD_len (ds : List D) (lo hi : Option Int) : (DL.cutD ds lo hi).length ≤ ds.length := by
  unfold DL.cutD
  rw [List.length_take, List.length_drop]
  omega
theorem cutD_mem {ds : List D} {lo hi : Option Int} {d : D} (h : d ∈ DL.cutD ds lo hi) : d ∈ ds := List.mem_of_mem_drop (List.mem_of_mem_take h)
theorem at_last (l : List D) (x : D) : L2.atI (l ++ [x]) (-1) = some x := by
  unfold L2.atI L2.ixN
  rw [if_neg (by decide), if_pos (by simp; omega)]
  have e : ((-1 : Int) + ((l ++ [x]).length : Nat)).toNat = l.length := by simp; omega
  rw [e]
  simp
theorem cut_tl (l : List D) : DL.cutD l (some 1) none = l.tail := by
  unfold DL.cutD
  cases l with
  | nil => rfl
  | cons x l =>
    have e : HT.sIx (x :: l).length 0 (some 1) = 1 := by
      unfold HT.sIx
      simp
      try omega
    rw [e]
    show l.take _ = l
    apply List.take_of_length_le
    show l.length ≤ l.length + 1 - 1
    omega
def tab (m : List (List Int)) : D := .tuple (m.map iTup)
end Z

namespace Z
open PySem PySem.Spec PyProof.Rows L2 DL
/-! ### tables, rows, lots -/
def areWh : D → Bool
  | .tuple ds => ds.all isWh
  | _ => false
def Nar (d : D) : Prop := ∀ ds, d = .tuple ds → ds.length ≤ 1000
theorem s1000 {n : Nat} (h : n ≤ 1000) : n ≤ sizeLine := Nat.le_trans h (by decide)
def F_is_whole : FD := ⟨fun as P _ => ∃ d, as = [.dat d] ∧ P (.bool (isWh d)), fun as P P' Z Z' k _ ⟨d, e, h⟩ => ⟨d, e, k _ h⟩⟩
/-! is_whole -/
abbrev s_is_whole : Stmt := top 6
abbrev n_is_whole : List Str := ["thing"]
theorem sc_is_whole : FnScope n_is_whole ["thing"] (defScope s_is_whole) := ⟨rfl, rfl, rfl, by decide +kernel, rfl, by decide +kernel, by decide +kernel⟩
def t_is_whole (px : XP) : TSD :=
  (sRet (tAndV (dUn (gIsi "int") (tValD 0)) (tNotV (dUn (gIsi "bool") (tValD 0)))))
set_option maxHeartbeats 4000000 in
theorem d_is_whole {G : Around → Prop} {P : Program} {w : World} {K : PySem.W.Frag} {mg : Str → Option Value} {base : Heap} {k : Nat} (B : Blt3 mg) {f : Addr} {cdv : Value} {A : Around} {outer : List Env} {s : Shared} {H : Hp} {E : XK} {C : Ct} {px : XP}
    (hr : Room k (A.deeper (envOfC "is_whole" (defScope s_is_whole) s.heap.objs.size f cdv))) (hG : G (A.deeper (envOfC "is_whole" (defScope s_is_whole) s.heap.objs.size f cdv))) (hx : XO (cxOf (L2.CX P w) P w K mg base n_is_whole "is_whole" (defScope s_is_whole) f cdv A outer s H E) C px (L2.CX P w) E) :
    PSDs (cxOf (L2.CX P w) P w K mg base n_is_whole "is_whole" (defScope s_is_whole) f cdv A outer s H E) C (defBody s_is_whole) (t_is_whole px) :=
  have nd := sc_is_whole.nd
  (pssd_one (psd_ret (pd_and (pd_isi "int" kits_int (by rfl) B.isinstance (by rfl) B.int (by decide +kernel) (PO.of (pd_var (i := 0)))) (pd_one (pd_not (pd_isi "bool" kits_bool (by rfl) B.isinstance (by rfl) B.bool (by decide +kernel) (PO.of (pd_var (i := 0)))))))))
theorem r_is_whole (px : XP) (as : List DL.Arg) (Q : D → Prop) (h : F_is_whole.run as Q px) : t_is_whole px { nx := fun _ => Q .none, rt := Q } (startD n_is_whole as) := by
  obtain ⟨d, rfl, h⟩ := h
  cases d <;> exact h
def F_are_whole : FD := ⟨fun as P _ => ∃ d, as = [.dat d] ∧ Nar d ∧ P (.bool (areWh d)), fun as P P' Z Z' k _ ⟨d, e, h1, h⟩ => ⟨d, e, h1, k _ h⟩⟩
/-! are_whole -/
abbrev s_are_whole : Stmt := top 7
abbrev n_are_whole : List Str := ["thing", "item"]
theorem sc_are_whole : FnScope n_are_whole ["thing"] (defScope s_are_whole) := ⟨rfl, rfl, rfl, by decide +kernel, rfl, by decide +kernel, by decide +kernel⟩
def t_are_whole (px : XP) : TSD :=
  (sRet (tAndV (dUn (gIsi "tuple") (tValD 0)) (dUn gAll (dComp (iT (tValD 0)) (.nm 1) tYesD (tCallD F_is_whole never (aCons (tValD 1) aNil)) [1]))))
set_option maxHeartbeats 4000000 in
theorem d_are_whole {G : Around → Prop} {P : Program} {w : World} {K : PySem.W.Frag} {mg : Str → Option Value} {base : Heap} {k : Nat} (B : Blt3 mg) {f : Addr} {cdv : Value} {A : Around} {outer : List Env} {s : Shared} {H : Hp} {E : XK} {C : Ct} {px : XP}
    (hr : Room k (A.deeper (envOfC "are_whole" (defScope s_are_whole) s.heap.objs.size f cdv))) (hG : G (A.deeper (envOfC "are_whole" (defScope s_are_whole) s.heap.objs.size f cdv))) (hx : XO (cxOf (L2.CX P w) P w K mg base n_are_whole "are_whole" (defScope s_are_whole) f cdv A outer s H E) C px (L2.CX P w) E) (c_is_whole : Cal G P w K mg base k "is_whole" ["thing"] C.q.w F_is_whole) :
    PSDs (cxOf (L2.CX P w) P w K mg base n_are_whole "are_whole" (defScope s_are_whole) f cdv A outer s H E) C (defBody s_are_whole) (t_are_whole px) :=
  have nd := sc_are_whole.nd
  (pssd_one (psd_ret (pd_and (pd_isi "tuple" kits_tuple (by rfl) B.isinstance (by rfl) B.tuple (by decide +kernel) (PO.of (pd_var (i := 0)))) (pd_one (pd_all (by rfl) B.all (PO.of (PD.ofF (pf_compC (.nm 1) [("item", 1)] rfl nd (DIC.of (di_tup (pd_var (i := 0)))) (blk_by (N := n_are_whole) (sc := defScope s_are_whole) (by decide +kernel)) (by decide) (fun s H A cl fp => (pg_name (i := 1) nd rfl (by first | exact .inl rfl | exact .inr rfl) (by first | exact .inr rfl | exact .inl rfl))) (fun s H A cl fp => dts_nil) (fun s H A cl fp => (pd_call c_is_whole hr hG xo_none (by rfl) (da_cons (pd_var (i := 1)) da_nil)))))))))))
theorem fm_map {α β : Type} (f : α → β) (l : List α) : l.filterMap (fun x => some (f x)) = l.map f := by
  rw [← List.filterMap_eq_map]
  rfl
theorem r_are_whole (px : XP) (as : List DL.Arg) (Q : D → Prop) (h : F_are_whole.run as Q px) : t_are_whole px { nx := fun _ => Q .none, rt := Q } (startD n_are_whole as) := by
  obtain ⟨d, rfl, hn, h⟩ := h
  cases d <;> first | exact h | skip
  rename_i ds
  have hl := s1000 (hn ds rfl)
  refine comp_pure (fun d => some (.bool (isWh d))) ds [] (fun d hd R r => ⟨d, rfl, r⟩) (by show 0 + ds.length ≤ sizeLine; omega) ?_
  rw [List.nil_append, fm_map]
  refine ⟨ds.map isWh, by rw [List.map_map]; rfl, ?_⟩
  have e : (ds.map isWh).all id = areWh (.tuple ds) := by
    show _ = ds.all isWh
    rw [List.all_map]
    rfl
  rw [e]
  exact h
def okR (n : Nat) (d : D) : Bool := areWh d && (match d with
  | .tuple ds => decide (ds.length = n)
  | _ => false)
def Sd (x : Int) : Prop := x.natAbs < 10 ^ 21
theorem Sd.sm {x : Int} (h : Sd x) : Sm 70 x := Nat.lt_of_lt_of_le h (by decide)
theorem Sd.zero : Sd 0 := by unfold Sd; decide
theorem Sd.of {x : Int} (h1 : -(10 ^ 20 : Int) ≤ x) (h2 : x ≤ 10 ^ 20) : Sd x := by
  unfold Sd
  have e : (10 : Int) ^ 20 = 100000000000000000000 := by decide
  have e2 : (10 : Nat) ^ 21 = 1000000000000000000000 := by decide
  rw [e] at h1 h2
  rw [e2]
  omega
structure Good (m : List (List Int)) (n : Nat) : Prop where
  sq : Sq m n
  lo : 1 ≤ n
  hi : n ≤ 12
  sym : ∀ i j, i < n → j < n → entry m i j = entry m j i
  sz : ∀ r ∈ m, ∀ x ∈ r, Sd x
inductive BadT : D → Prop
  | nt {d : D} (h : isa d "tuple" = false) : BadT d
  | len {rows : List D} (h : rows.length ≤ 1000) (h2 : rows.length = 0 ∨ 12 < rows.length) : BadT (.tuple rows)
  | row {rows : List D} (h1 : 1 ≤ rows.length) (h2 : rows.length ≤ 12) (hn : ∀ r ∈ rows, Nar r) (h : rows.all (okR rows.length) = false) : BadT (.tuple rows)
  | asym {m : List (List Int)} {n i j : Nat} (sq : Sq m n) (hn : n ≤ 12) (hi : i < n) (hj : j < i) (hd : entry m i j ≠ entry m j i) : BadT (tab m)
theorem at_il {r : List Int} {i : Nat} (h : i < r.length) : L2.atI (r.map PyData.int) (i : Int) = some (.int (at0 r i)) := by
  refine L2.atI_nat ?_
  rw [List.getElem?_map, List.getElem?_eq_getElem h]
  simp [at0, h]
theorem at_tab {m : List (List Int)} {i : Nat} (h : i < m.length) : L2.atI (m.map iTup) (i : Int) = some (iTup (m.getD i [])) := by
  refine L2.atI_nat ?_
  rw [List.getElem?_map, List.getElem?_eq_getElem h]
  simp [h]
theorem row_len {m : List (List Int)} {n i : Nat} (h : Sq m n) (hi : i < n) : (m.getD i []).length = n := by
  have hl : i < m.length := by rw [h.len]; exact hi
  have e : m.getD i [] = m[i] := by simp [hl]
  rw [e]
  exact h.row _ (List.getElem_mem hl)
theorem okR_row {r : List Int} {n : Nat} (h : r.length = n) : okR n (iTup r) = true := by
  show ((r.map PyData.int).all isWh && decide ((r.map PyData.int).length = n)) = true
  rw [List.length_map, h, decide_eq_true rfl, Bool.and_true, List.all_eq_true]
  intro x hx
  obtain ⟨i, _, rfl⟩ := List.mem_map.mp hx
  rfl
theorem sq_all {m : List (List Int)} {n : Nat} (h : Sq m n) : (m.map iTup).all (okR (m.map iTup).length) = true := by
  rw [List.length_map, List.all_eq_true]
  intro x hx
  obtain ⟨r, hr, rfl⟩ := List.mem_map.mp hx
  exact okR_row ((h.row r hr).trans h.len.symm)
theorem good_all {m : List (List Int)} {n : Nat} (h : Good m n) : (m.map iTup).all (okR (m.map iTup).length) = true := by
  rw [List.length_map, List.all_eq_true]
  intro x hx
  obtain ⟨r, hr, rfl⟩ := List.mem_map.mp hx
  exact okR_row ((h.sq.row r hr).trans h.sq.len.symm)
def F_is_table_value : FD := ⟨fun as P _ => ∃ d, as = [.dat d, .dat (.int 12)] ∧ ((∃ m n, d = tab m ∧ Good m n ∧ P (.bool true)) ∨ (BadT d ∧ P (.bool false))), fun as P P' Z Z' k _ ⟨d, e, h⟩ => ⟨d, e, h.imp (fun ⟨m, n, e, g, h⟩ => ⟨m, n, e, g, k _ h⟩) fun ⟨b, h⟩ => ⟨b, k _ h⟩⟩⟩
/-! is_table_value -/
abbrev s_is_table_value : Stmt := top 8
abbrev n_is_table_value : List Str := ["thing", "most", "items", "i", "j"]
theorem sc_is_table_value : FnScope n_is_table_value ["thing", "most"] (defScope s_is_table_value) := ⟨rfl, rfl, rfl, by decide +kernel, rfl, by decide +kernel, by decide +kernel⟩
def t_is_table_value (px : XP) : TSD :=
  (sSeq (sIf (tOrD (tNotD (tTestD (dUn (gIsi "tuple") (tValD 0)))) (tNotD (tTestD (dChain gLe gLe (tCD (.int 1)) (dUn gLen (tValD 0)) (tValD 1))))) (sRet (tCD (.bool false))) sNext)
    (sSeq (sIf (tNotD (tTestD (dUn gAll (dComp (iT (tValD 0)) (.nm 2) tYesD (tAndV (tCallD F_are_whole never (aCons (tValD 2) aNil)) (dBi (gEqS false) (dUn gLen (tValD 2)) (dUn gLen (tValD 0)))) [2])))) (sRet (tCD (.bool false))) sNext)
    (sSeq (sFor (iEnumT (tValD 0)) (.tup [3, 2]) (sFor (iR1 (tValD 3)) (.nm 4) (sIf (tTestD (dBi (gEqS true) (dBi gIx (tValD 2) (tValD 4)) (dBi gIx (dBi gIx (tValD 0) (tValD 4)) (tValD 3)))) (sRet (tCD (.bool false))) sNext)))
    (sRet (tCD (.bool true))))))
set_option maxHeartbeats 4000000 in
theorem d_is_table_value {G : Around → Prop} {P : Program} {w : World} {K : PySem.W.Frag} {mg : Str → Option Value} {base : Heap} {k : Nat} (B : Blt3 mg) {f : Addr} {cdv : Value} {A : Around} {outer : List Env} {s : Shared} {H : Hp} {E : XK} {C : Ct} {px : XP}
    (hr : Room k (A.deeper (envOfC "is_table_value" (defScope s_is_table_value) s.heap.objs.size f cdv))) (hG : G (A.deeper (envOfC "is_table_value" (defScope s_is_table_value) s.heap.objs.size f cdv))) (hx : XO (cxOf (L2.CX P w) P w K mg base n_is_table_value "is_table_value" (defScope s_is_table_value) f cdv A outer s H E) C px (L2.CX P w) E) (c_are_whole : Cal G P w K mg base k "are_whole" ["thing"] C.q.w F_are_whole) :
    PSDs (cxOf (L2.CX P w) P w K mg base n_is_table_value "is_table_value" (defScope s_is_table_value) f cdv A outer s H E) C (defBody s_is_table_value) (t_is_table_value px) :=
  have nd := sc_is_table_value.nd
  (pssd_cons (psd_if (dt_bool (dw_or (dt_not (dt_val (pd_isi "tuple" kits_tuple (by rfl) B.isinstance (by rfl) B.tuple (by decide +kernel) (PO.of (pd_var (i := 0)))))) (dw_or1 (dt_not (dt_lele (PO.of pd_int) (PO.of (pd_len (by rfl) B.len (PO.of (pd_var (i := 0))))) (PO.of (pd_var (i := 1)))))))) (pssd_one (psd_ret pd_bl)) pssd_nil)
    (pssd_cons (psd_if (dt_not (dt_val (pd_all (by rfl) B.all (PO.of (PD.ofF (pf_compC (.nm 2) [("items", 2)] rfl nd (DIC.of (di_tup (pd_var (i := 0)))) (blk_by (N := n_is_table_value) (sc := defScope s_is_table_value) (by decide +kernel)) (by decide) (fun s H A cl fp => (pg_name (i := 2) nd rfl (by first | exact .inl rfl | exact .inr rfl) (by first | exact .inr rfl | exact .inl rfl))) (fun s H A cl fp => dts_nil) (fun s H A cl fp => (pd_and (pd_call c_are_whole hr hG xo_none (by rfl) (da_cons (pd_var (i := 2)) da_nil)) (pd_one (pd_eqS (PO.of (pd_len (by rfl) B.len (PO.of (pd_var (i := 2))))) (PO.of (pd_len (by rfl) B.len (PO.of (pd_var (i := 0))))))))))))))) (pssd_one (psd_ret pd_bl)) pssd_nil)
    (pssd_cons (psd_for (.tup [3, 2]) own_of rfl (di_enumT (by rfl) B.enumerate (pd_var (i := 0))) (pg_tup rfl (pgs_cons (pg_name (i := 3) nd rfl (.inl rfl)) (pgs_cons (pg_name (i := 2) nd rfl (.inl rfl)) pgs_nil))) (pssd_one (psd_for (.nm 4) own_of rfl (di_range1 (by rfl) B.range (pd_var (i := 3))) (pg_name (i := 4) nd rfl (.inl rfl)) (pssd_one (psd_if (dt_neS (PO.of (pd_ix (PO.of (pd_var (i := 2))) (PO.of (pd_var (i := 4))))) (PO.of (pd_ix (PO.of (pd_ix (PO.of (pd_var (i := 0))) (PO.of (pd_var (i := 4))))) (PO.of (pd_var (i := 3)))))) (pssd_one (psd_ret pd_bl)) pssd_nil)))))
    (pssd_one (psd_ret pd_bl)))))
theorem rows_ok {ρ : List Slot} {rows : List D} {n : D} {o3 o4 : Slot} {P : D → Prop} (hn : ∀ r ∈ rows, Nar r) (hl : rows.length ≤ 12) (h : P (.list (rows.map fun r => .bool (okR rows.length r)))) :
    compD (.nm 2) tYesD (tAndV (tCallD F_are_whole never (aCons (tValD 2) aNil)) (dBi (gEqS false) (dUn gLen (tValD 2)) (dUn gLen (tValD 0)))) [.val (.tuple rows), .val n, .un, o3, o4] rows [] P := by
  refine comp_pure (fun r => some (.bool (okR rows.length r))) rows [] (fun d hd R r => ⟨d, rfl, hn d hd, ?_⟩) (Nat.le_trans (show 0 + rows.length ≤ 12 by omega) (by decide)) (by rw [List.nil_append, fm_map]; exact h)
  have r : R (some (.bool (okR rows.length d))) := r
  show if areWh d = true then _ else _
  cases e : areWh d with
  | false =>
    have z : okR rows.length d = false := by unfold okR; rw [e]; rfl
    rw [z] at r
    exact r
  | true =>
    rw [if_pos rfl]
    cases d with
    | tuple ds =>
      have z : okR rows.length (.tuple ds) = decide ((ds.length : Int) = (rows.length : Int)) := by
        unfold okR
        rw [e, Bool.true_and]
        exact decide_eq_decide.mpr (by omega)
      rw [z] at r
      exact r
    | _ => cases e
theorem loop_asyI {D : EndsD} {m : List (List Int)} {n k j : Nat} {o1 : Slot} (sq : Sq m n) (hk : k < n) (hj : j < k) (hd : entry m k j ≠ entry m j k) (h : D.rt (.bool false)) : ∀ (c t : Nat) (o4 : Slot), t + c = k → t ≤ j →
    forD (.nm 4) (sIf (tTestD (dBi (gEqS true) (dBi gIx (tValD 2) (tValD 4)) (dBi gIx (dBi gIx (tValD 0) (tValD 4)) (tValD 3)))) (sRet (tCD (.bool false))) sNext) D (rangeD (t : Int) 1 c) [.val (tab m), o1, .val (iTup (m.getD k [])), .val (.int (k : Int)), o4]
  | 0, t, o4, e, ht => by omega
  | c + 1, t, o4, e, ht => by
    rw [rangeD_succ]
    have r1 := row_len sq hk
    have r2 := row_len sq (show t < n by omega)
    have e1 : (t : Int) + 1 = ((t + 1 : Nat) : Int) := by omega
    refine ⟨.int (at0 (m.getD k []) t), at_il (by omega), iTup (m.getD t []), at_tab (by rw [sq.len]; omega), .int (at0 (m.getD t []) k), at_il (by omega), ?_⟩
    refine ite_t (b := !decide (at0 (m.getD k []) t = at0 (m.getD t []) k)) (fun _ => h) (fun e2 => ?_)
    rw [e1]
    have hne : t ≠ j := fun z => by
      subst z
      have hx : decide (at0 (m.getD k []) t = at0 (m.getD t []) k) = false := decide_eq_false hd
      rw [hx] at e2
      cases e2
    exact loop_asyI sq hk hj hd h c (t + 1) _ (by omega) (by omega)
theorem loop_asyN {D : EndsD} {m : List (List Int)} {n k : Nat} {o1 : Slot} (sq : Sq m n) (hk : k < n) (h : D.rt (.bool false)) (q : ∀ o4, D.nx [.val (tab m), o1, .val (iTup (m.getD k [])), .val (.int (k : Int)), o4]) : ∀ (c t : Nat) (o4 : Slot), t + c = k →
    forD (.nm 4) (sIf (tTestD (dBi (gEqS true) (dBi gIx (tValD 2) (tValD 4)) (dBi gIx (dBi gIx (tValD 0) (tValD 4)) (tValD 3)))) (sRet (tCD (.bool false))) sNext) D (rangeD (t : Int) 1 c) [.val (tab m), o1, .val (iTup (m.getD k [])), .val (.int (k : Int)), o4]
  | 0, t, o4, e => q o4
  | c + 1, t, o4, e => by
    rw [rangeD_succ]
    have r1 := row_len sq hk
    have r2 := row_len sq (show t < n by omega)
    have e1 : (t : Int) + 1 = ((t + 1 : Nat) : Int) := by omega
    refine ⟨.int (at0 (m.getD k []) t), at_il (by omega), iTup (m.getD t []), at_tab (by rw [sq.len]; omega), .int (at0 (m.getD t []) k), at_il (by omega), ?_⟩
    refine ite_t (b := !decide (at0 (m.getD k []) t = at0 (m.getD t []) k)) (fun _ => h) (fun e2 => ?_)
    rw [e1]
    exact loop_asyN sq hk h q c (t + 1) _ (by omega)
theorem loop_asym {D : EndsD} {m : List (List Int)} {n i j : Nat} {o1 : Slot} (sq : Sq m n) (hn : n ≤ 12) (hi : i < n) (hj : j < i) (hd : entry m i j ≠ entry m j i) (h : D.rt (.bool false)) : ∀ (c k : Nat) (o2 o3 o4 : Slot), k + c = n → k ≤ i →
    forD (.tup [3, 2]) (sFor (iR1 (tValD 3)) (.nm 4) (sIf (tTestD (dBi (gEqS true) (dBi gIx (tValD 2) (tValD 4)) (dBi gIx (dBi gIx (tValD 0) (tValD 4)) (tValD 3)))) (sRet (tCD (.bool false))) sNext)) D (enumF k ((m.map iTup).drop k)) [.val (tab m), o1, o2, o3, o4]
  | 0, k, o2, o3, o4, e, hk => by omega
  | c + 1, k, o2, o3, o4, e, hk => by
    have hkn : k < n := by omega
    have hlt : k < (m.map iTup).length := by rw [List.length_map, sq.len]; exact hkn
    have hlm : k < m.length := by rw [sq.len]; exact hkn
    have e0 : (m.map iTup)[k] = iTup (m.getD k []) := by rw [List.getElem_map]; simp [hlm]
    rw [List.drop_eq_getElem_cons hlt, e0]
    refine ⟨rfl, ⟨by omega, by omega⟩, ?_⟩
    show forD _ _ _ (rangeD ((0 : Nat) : Int) 1 (((k : Nat) : Int)).toNat) _
    rw [Int.toNat_natCast]
    by_cases hki : k = i
    · subst hki
      refine loop_asyI sq hkn hj hd ?_ k 0 _ (by omega) (Nat.zero_le _)
      exact h
    · refine loop_asyN sq hkn ?_ (fun o4 => ?_) k 0 _ (by omega)
      · exact h
      · exact loop_asym (D := D) sq hn hi hj hd h c (k + 1) _ _ o4 (by omega) (by omega)
theorem r_is_table_value (px : XP) (as : List DL.Arg) (Q : D → Prop) (h : F_is_table_value.run as Q px) : t_is_table_value px { nx := fun _ => Q .none, rt := Q } (startD n_is_table_value as) := by
  obtain ⟨d, rfl, h⟩ := h
  rcases h with ⟨m, n, rfl, g, h⟩ | ⟨b, h⟩
  · have hl : (m.map iTup).length = n := by rw [List.length_map, g.sq.len]
    have lo := g.lo
    have hi := g.hi
    refine ite_t (b := decide ((1 : Int) ≤ ((m.map iTup).length : Int))) (fun _ => ?_) (fun e => absurd (of_decide_eq_false e) (by omega))
    refine ite_t (b := !decide (((m.map iTup).length : Int) ≤ 12)) (fun e => absurd e (by rw [decide_eq_true (by omega)]; decide)) (fun _ => ?_)
    have hnar : ∀ r ∈ m.map iTup, Nar r := fun r hr ds e => by
      obtain ⟨x, hx, rfl⟩ := List.mem_map.mp hr
      cases e
      rw [List.length_map, g.sq.row x hx]
      omega
    refine rows_ok (ρ := []) hnar (by omega) ⟨(m.map iTup).map (okR (m.map iTup).length), by rw [List.map_map (g := PyData.bool)]; rfl, ?_⟩
    have e1 : ((m.map iTup).map (okR (m.map iTup).length)).all id = true := by
      rw [List.all_map]
      exact good_all g
    rw [e1]
    show forD (.tup [3, 2]) _ _ (enumD (m.map iTup)) _
    rw [enumD_F]
    refine forD_inv (fun ρ => ∃ o2 o3 o4, ρ = [.val (tab m), .val (.int 12), o2, o3, o4]) _ ?_ ?_ _ ⟨_, _, _, rfl⟩
    · rintro d hd ρ ⟨o2, o3, o4, rfl⟩ N k
      obtain ⟨i, x, _, hi2, hx, rfl⟩ := enumF_mem hd
      rw [hl] at hi2
      have hin : i < n := by omega
      have hx : (m.map iTup)[i]? = some x := hx
      have hrow : x = iTup (m.getD i []) := by
        have hlt : i < m.length := by rw [g.sq.len]; exact hin
        rw [List.getElem?_map, List.getElem?_eq_getElem hlt] at hx
        rw [← Option.some.inj hx]
        simp [hlt]
      subst hrow
      refine ⟨rfl, ⟨by omega, by omega⟩, ?_⟩
      show forD _ _ _ (rangeD 0 1 (((i : Nat) : Int)).toNat) _
      rw [Int.toNat_natCast]
      refine forD_inv (fun ρ => ∃ o4, ρ = [.val (tab m), .val (.int 12), .val (iTup (m.getD i [])), .val (.int ((i : Nat) : Int)), o4]) _ ?_ ?_ _ ⟨_, rfl⟩
      · rintro d hd ρ ⟨o4, rfl⟩ N2 k2
        obtain ⟨j, hj, rfl⟩ : ∃ j : Nat, j < i ∧ d = .int ((j : Nat) : Int) := by
          unfold rangeD at hd
          obtain ⟨j, hj, rfl⟩ := List.mem_map.mp hd
          exact ⟨j, List.mem_range.mp hj, by simp⟩
        have r1 := row_len g.sq hin
        have r2 := row_len g.sq (show j < n by omega)
        refine ⟨.int (at0 (m.getD i []) j), at_il (by omega), iTup (m.getD j []), at_tab (by rw [g.sq.len]; omega), .int (at0 (m.getD j []) i), at_il (by omega), ?_⟩
        show if (!decide (at0 (m.getD i []) j = at0 (m.getD j []) i)) = true then _ else _
        have es : at0 (m.getD i []) j = at0 (m.getD j []) i := g.sym i j hin (by omega)
        rw [decide_eq_true es]
        exact k2 _ ⟨_, rfl⟩
      · rintro ρ ⟨o4, rfl⟩
        exact k _ ⟨_, _, _, rfl⟩
    · rintro ρ ⟨_, _, _, rfl⟩
      exact h
  · cases b with
    | nt hd => exact ite_t (b := !isa d "tuple") (fun _ => h) (fun e => absurd e (by rw [hd]; decide))
    | @len rows hle h2 =>
      refine ite_t (b := decide ((1 : Int) ≤ (rows.length : Int))) (fun e => ?_) (fun e => h)
      have : 1 ≤ rows.length := by have := of_decide_eq_true e; omega
      exact ite_t (b := !decide ((rows.length : Int) ≤ 12)) (fun _ => h) (fun e => absurd e (by rw [decide_eq_false (by omega)]; decide))
    | @row rows h1 h2 hn hb =>
      refine ite_t (b := decide ((1 : Int) ≤ (rows.length : Int))) (fun e => ?_) (fun e => h)
      refine ite_t (b := !decide ((rows.length : Int) ≤ 12)) (fun _ => h) (fun _ => ?_)
      refine rows_ok (ρ := []) hn h2 ⟨rows.map (okR rows.length), by rw [List.map_map]; rfl, ?_⟩
      have e1 : (rows.map (okR rows.length)).all id = false := by
        rw [List.all_map]
        exact hb
      rw [e1]
      exact h
    | @asym m n i j sq hn hi hj hd =>
      have hl : (m.map iTup).length = n := by rw [List.length_map, sq.len]
      refine ite_t (b := decide ((1 : Int) ≤ ((m.map iTup).length : Int))) (fun _ => ?_) (fun e => h)
      refine ite_t (b := !decide (((m.map iTup).length : Int) ≤ 12)) (fun _ => h) (fun _ => ?_)
      have hnar : ∀ r ∈ m.map iTup, Nar r := fun r hr ds e => by
        obtain ⟨x, hx, rfl⟩ := List.mem_map.mp hr
        cases e
        rw [List.length_map, sq.row x hx]
        omega
      refine rows_ok (ρ := []) hnar (by omega) ⟨(m.map iTup).map (okR (m.map iTup).length), by rw [List.map_map (g := PyData.bool)]; rfl, ?_⟩
      have e1 : ((m.map iTup).map (okR (m.map iTup).length)).all id = true := by
        rw [List.all_map]
        exact sq_all sq
      rw [e1]
      show forD (.tup [3, 2]) _ _ (enumD (m.map iTup)) _
      rw [enumD_F]
      exact loop_asym (D := { nx := sRet (tCD (.bool true)) { nx := fun _ => Q .none, rt := Q }, rt := Q }) sq hn hi hj hd h n 0 .un .un .un (by omega) (Nat.zero_le _)
def F_need_table : FD := ⟨fun as P Z => ∃ d, as = [.dat d] ∧ ((∃ m n, d = tab m ∧ Good m n ∧ P .none) ∨ (BadT d ∧ Z CT "thing" d)), fun as P P' Z Z' k z ⟨d, e, h⟩ => ⟨d, e, h.imp (fun ⟨m, n, e, g, h⟩ => ⟨m, n, e, g, k _ h⟩) fun ⟨b, h⟩ => ⟨b, z _ _ _ h⟩⟩⟩
/-! need_table -/
abbrev s_need_table : Stmt := top 9
abbrev n_need_table : List Str := ["thing"]
theorem sc_need_table : FnScope n_need_table ["thing"] (defScope s_need_table) := ⟨rfl, rfl, rfl, by decide +kernel, rfl, by decide +kernel, by decide +kernel⟩
def t_need_table (px : XP) : TSD :=
  (sIf (tNotD (tTestD (tCallD F_is_table_value px (aCons (tValD 0) (aCons (tCD (.int 12)) aNil))))) (sRaise px CT "thing" (tValD 0)) sNext)
set_option maxHeartbeats 4000000 in
theorem d_need_table {G : Around → Prop} {P : Program} {w : World} {K : PySem.W.Frag} {mg : Str → Option Value} {base : Heap} {k : Nat} (B : Blt3 mg) {t_MOST_PLACES : Tok} (g_MOST_PLACES : mg "MOST_PLACES" = some (.int 12 t_MOST_PLACES)) {f : Addr} {cdv : Value} {A : Around} {outer : List Env} {s : Shared} {H : Hp} {E : XK} {C : Ct} {px : XP}
    (hr : Room k (A.deeper (envOfC "need_table" (defScope s_need_table) s.heap.objs.size f cdv))) (hG : G (A.deeper (envOfC "need_table" (defScope s_need_table) s.heap.objs.size f cdv))) (hx : XO (cxOf (L2.CX P w) P w K mg base n_need_table "need_table" (defScope s_need_table) f cdv A outer s H E) C px (L2.CX P w) E) (c_is_table_value : Cal G P w K mg base k "is_table_value" ["thing", "most"] C.q.w F_is_table_value) (r_BadTable : Rs P w K mg base "BadTable" "thing" CT) (hk : 2 ≤ k) :
    PSDs (cxOf (L2.CX P w) P w K mg base n_need_table "need_table" (defScope s_need_table) f cdv A outer s H E) C (defBody s_need_table) (t_need_table px) :=
  have nd := sc_need_table.nd
  (pssd_one (psd_if (dt_not (dt_val (pd_call c_is_table_value hr hG hx (by rfl) (da_cons (pd_var (i := 0)) (da_cons (pd_glob (by rfl) g_MOST_PLACES) da_nil))))) (pssd_one (psd_raise rfl (L2.takes_of rfl rfl rfl rfl) r_BadTable hr hk hx (by rfl) (pd_var (i := 0)))) pssd_nil))
theorem r_need_table (px : XP) (as : List DL.Arg) (Q : D → Prop) (h : F_need_table.run as Q px) : t_need_table px { nx := fun _ => Q .none, rt := Q } (startD n_need_table as) := by
  obtain ⟨d, rfl, h⟩ := h
  exact ⟨d, rfl, h.imp (fun ⟨m, n, e, g, h⟩ => ⟨m, n, e, g, h⟩) fun ⟨b, h⟩ => ⟨b, h⟩⟩
def TabOr (t : D) (G : List (List Int) → Nat → Prop) (Z : Prop) : Prop := (∃ m n, t = tab m ∧ Good m n ∧ G m n) ∨ (BadT t ∧ Z)
theorem TabOr.mono {t : D} {G G' : List (List Int) → Nat → Prop} {Z Z' : Prop} (k : ∀ m n, G m n → G' m n) (z : Z → Z') (h : TabOr t G Z) : TabOr t G' Z' := h.imp (fun ⟨m, n, e, g, h⟩ => ⟨m, n, e, g, k _ _ h⟩) fun ⟨b, h⟩ => ⟨b, z h⟩
theorem TabOr.need {t : D} {G : List (List Int) → Nat → Prop} {Z : Prop} {N : Prop} (h : TabOr t G Z) (k : ∀ m n, t = tab m → Good m n → G m n → N) : (∃ m n, t = tab m ∧ Good m n ∧ N) ∨ (BadT t ∧ Z) := h.imp (fun ⟨m, n, e, g, h⟩ => ⟨m, n, e, g, k m n e g h⟩) fun h => h
end Z

namespace Z
open PySem PySem.Spec PyProof.Rows L2 DL TL
/-! ### words that are numbers -/
def val (w : Str) : Int := (PySem.intText? w).getD 0
def Few (w : Str) : Prop := numB w = true → (digs w).length ≤ 21
theorem few_val {w : Str} (h : numB w = true) (hf : Few w) : NumOk w (val w) := by
  obtain ⟨n, k⟩ := num_spec h (hf h)
  have e : val w = n := by unfold val; rw [k.rd]; rfl
  rw [e]
  exact k
theorem one_str (c : Nat) : tl (⟨#[c]⟩ : Str) = [c] := rfl
def isFig (z : Str) : Bool := (tl z).all fun c => decide (c ∈ (fig : Str).cps.toList)
theorem isFig_one (c : Nat) : isFig ⟨#[c]⟩ = decide (c ∈ (fig : Str).cps.toList) := by
  unfold isFig
  rw [one_str, List.all_cons, List.all_nil, Bool.and_true]
def sFig (x : D) : Bool := match x with
  | .str z => isFig z
  | _ => false
def fFig (x : D) : Option D := match x with
  | .str z => some (.bool (isFig z))
  | _ => none
def fNot (x : D) : Option D := match x with
  | .str z => if isFig z = true then none else some (.str z)
  | _ => none
theorem signs_all (d : Str) : ((signsD d).map sFig).all id = allDig d := by
  unfold signsD allDig
  rw [List.map_map, List.all_map]
  show (tl d).all _ = (tl d).all _
  congr 1
  funext c
  exact isFig_one c
theorem dig_len (w : Str) : (digs w).length ≤ w.length := by
  unfold digs
  split
  · rw [len_tl, cutS_d, len_tl w, List.length_drop]
    omega
  · exact Nat.le_refl _
theorem hd_ix {d : Str} (h : ¬ d = "") : ∃ c, L2.atI (tl d) 0 = some c ∧ (tl d).head? = some c := by
  cases e : tl d with
  | nil => exact absurd (ext_tl (e.trans (show [] = tl ("" : Str) by decide +kernel))) h
  | cons c r => exact ⟨c, L2.atI_nat (j := 0) rfl, rfl⟩
theorem one_zero (c : Nat) : decide ((⟨#[c]⟩ : Str) = zero) = decide (some c = some 48) := by
  refine decide_eq_decide.mpr ⟨fun e => ?_, fun e => ?_⟩
  · have := congrArg tl e
    rw [zero_tl] at this
    rw [(List.cons.inj (show [c] = [48] from this)).1]
  · cases e
    exact ext_tl zero_tl.symm
def F_integer_read : FD := ⟨fun as P _ => ∃ w : Str, as = [.dat (.str w)] ∧ w.length ≤ sizeLine ∧ Few w ∧ P (if numB w = true then .int (val w) else .none), fun as P P' Z Z' k _ ⟨w, e, h1, h2, h⟩ => ⟨w, e, h1, h2, k _ h⟩⟩
/-! integer_read -/
abbrev s_integer_read : Stmt := top 14
abbrev n_integer_read : List Str := ["word", "figures", "sign"]
theorem sc_integer_read : FnScope n_integer_read ["word"] (defScope s_integer_read) := ⟨rfl, rfl, rfl, by decide +kernel, rfl, by decide +kernel, by decide +kernel⟩
def t_integer_read (px : XP) : TSD :=
  (sSeq (sSet 1 (tIfD (tTestD (dBi (gEqS false) (dSl gSlT (tValD 0) oNone (oSome (tCD (.int 1)))) (tCD (.str "-")))) (dSl gSlT (tValD 0) (oSome (tCD (.int 1))) oNone) (tValD 0)))
    (sSeq (sIf (tOrD (tTestD (dBi (gEqS false) (tValD 1) (tCD (.str "")))) (tNotD (tTestD (dUn gAll (dComp (iS (tValD 1)) (.nm 2) tYesD (dBi (gInS false) (tValD 2) (tCD (.str "0123456789"))) [2]))))) (sRet (tCD .none)) sNext)
    (sSeq (sIf (tAndD (tTestD (dBi (gEqS false) (dBi gIx (tValD 1) (tCD (.int 0))) (tCD (.str "0")))) (tTestD (dBi (gEqS true) (tValD 0) (tCD (.str "0"))))) (sRet (tCD .none)) sNext)
    (sRet (dUn gIntS (tValD 0))))))
set_option maxHeartbeats 4000000 in
theorem d_integer_read {G : Around → Prop} {P : Program} {w : World} {K : PySem.W.Frag} {mg : Str → Option Value} {base : Heap} {k : Nat} (B : Blt3 mg) {t_FIGURES : Tok} (g_FIGURES : mg "FIGURES" = some (.str "0123456789" t_FIGURES)) {f : Addr} {cdv : Value} {A : Around} {outer : List Env} {s : Shared} {H : Hp} {E : XK} {C : Ct} {px : XP}
    (hr : Room k (A.deeper (envOfC "integer_read" (defScope s_integer_read) s.heap.objs.size f cdv))) (hG : G (A.deeper (envOfC "integer_read" (defScope s_integer_read) s.heap.objs.size f cdv))) (hx : XO (cxOf (L2.CX P w) P w K mg base n_integer_read "integer_read" (defScope s_integer_read) f cdv A outer s H E) C px (L2.CX P w) E) :
    PSDs (cxOf (L2.CX P w) P w K mg base n_integer_read "integer_read" (defScope s_integer_read) f cdv A outer s H E) C (defBody s_integer_read) (t_integer_read px) :=
  have nd := sc_integer_read.nd
  (pssd_cons (psd_set 1 nd (pd_ifE (dt_eqS (PO.of (pd_slT (PO.of (pd_var (i := 0))) dp_none (dp_some pd_int))) (PO.of pd_str)) (pd_slT (PO.of (pd_var (i := 0))) (dp_some pd_int) dp_none) (pd_var (i := 0))))
    (pssd_cons (psd_if (dt_bool (dw_or (dt_eqS (PO.of (pd_var (i := 1))) (PO.of pd_str)) (dw_or1 (dt_not (dt_val (pd_all (by rfl) B.all (PO.of (PD.ofF (pf_compC (.nm 2) [("sign", 2)] rfl nd (DIC.of (di_str (pd_var (i := 1)))) (blk_by (N := n_integer_read) (sc := defScope s_integer_read) (by decide +kernel)) (by decide) (fun s H A cl fp => (pg_name (i := 2) nd rfl (by first | exact .inl rfl | exact .inr rfl) (by first | exact .inr rfl | exact .inl rfl))) (fun s H A cl fp => dts_nil) (fun s H A cl fp => (pd_inS (PO.of (pd_var (i := 2))) (PO.of (pd_globS (by rfl) g_FIGURES))))))))))))) (pssd_one (psd_ret pd_non)) pssd_nil)
    (pssd_cons (psd_if (dt_bool (dw_and (dt_eqS (PO.of (pd_ix (PO.of (pd_var (i := 1))) (PO.of pd_int))) (PO.of pd_str)) (dw_and1 (dt_neS (PO.of (pd_var (i := 0))) (PO.of pd_str))))) (pssd_one (psd_ret pd_non)) pssd_nil)
    (pssd_one (psd_ret (pd_intS (by rfl) B.int (PO.of (pd_var (i := 0)))))))))
theorem dig_comp {P : D → Prop} {d : Str} {o0 : Slot} (hl : d.length ≤ sizeLine) (h : P (.bool (allDig d))) :
    compD (.nm 2) tYesD (dBi (gInS false) (tValD 2) (tCD (.str "0123456789"))) [o0, .val (.str d), .un] (signsD d) [] fun x => gAll x P := by
  have hsl : (signsD d).length ≤ sizeLine := by unfold signsD; rw [List.length_map]; rw [len_tl] at hl; exact hl
  have e1 : (signsD d).filterMap fFig = ((signsD d).map sFig).map PyData.bool := by
    unfold signsD
    rw [List.filterMap_map, List.map_map, List.map_map, ← List.filterMap_eq_map]
    rfl
  refine comp_pure fFig (signsD d) [] (fun x hx R r => ?_) (by show 0 + (signsD d).length ≤ sizeLine; omega) ?_
  · unfold signsD at hx
    obtain ⟨c, hc, rfl⟩ := List.mem_map.mp hx
    refine ⟨c, rfl, ?_⟩
    have r : R (some (.bool (isFig ⟨#[c]⟩))) := r
    rw [isFig_one] at r
    exact r
  · rw [List.nil_append, e1]
    exact ⟨_, rfl, by rw [signs_all]; exact h⟩
def t_ir2 (px : XP) : TSD := (sSeq (sIf (tOrD (tTestD (dBi (gEqS false) (tValD 1) (tCD (.str "")))) (tNotD (tTestD (dUn gAll (dComp (iS (tValD 1)) (.nm 2) tYesD (dBi (gInS false) (tValD 2) (tCD (.str "0123456789"))) [2]))))) (sRet (tCD .none)) sNext)
    (sSeq (sIf (tAndD (tTestD (dBi (gEqS false) (dBi gIx (tValD 1) (tCD (.int 0))) (tCD (.str "0")))) (tTestD (dBi (gEqS true) (tValD 0) (tCD (.str "0"))))) (sRet (tCD .none)) sNext)
    (sRet (dUn gIntS (tValD 0)))))
theorem ir2 {px : XP} {Q : D → Prop} {w : Str} (hl : w.length ≤ sizeLine) (hf : Few w) (h : Q (if numB w = true then .int (val w) else .none)) : t_ir2 px { nx := fun _ => Q .none, rt := Q } [.val (.str w), .val (.str (digs w)), .un] := by
  have hdl : (digs w).length ≤ sizeLine := Nat.le_trans (dig_len w) hl
  have no : numB w = false → Q .none := fun e => by rw [e] at h; exact h
  refine ite_t (b := decide (digs w = "")) (fun e => no ?_) (fun e => ?_)
  · unfold numB
    rw [e]
    rfl
  refine dig_comp hdl ?_
  have e0 := of_decide_eq_false e
  cases e2 : allDig (digs w) with
  | false =>
    refine no ?_
    unfold numB
    rw [e2, Bool.false_and, Bool.and_false]
  | true =>
    obtain ⟨c, hc, hh⟩ := hd_ix e0
    refine ⟨hdl, c, hc, ?_⟩
    have last : numB w = true → sRet (dUn gIntS (tValD 0)) { nx := fun _ => Q .none, rt := Q } [.val (.str w), .val (.str (digs w)), .un] := fun e => by
      have k := few_val e hf
      rw [if_pos e] at h
      exact ⟨val w, k.rd, Nat.le_trans k.len (by decide), h⟩
    have e5 : hd0 (digs w) = decide ((⟨#[c]⟩ : Str) = zero) := by
      unfold hd0
      rw [hh, one_zero]
    have e6 : numB w = (decide (w = zero) || !decide ((⟨#[c]⟩ : Str) = zero)) := by
      unfold numB
      rw [e, e2, e5]
      rfl
    refine ite_t (b := decide ((⟨#[c]⟩ : Str) = zero)) (fun e3 => ?_) (fun e3 => last (by rw [e6, e3, Bool.not_false, Bool.or_true]))
    refine ite_t (b := !decide (w = zero)) (fun e4 => no ?_) (fun e4 => last ?_)
    · rw [e6, e3]
      cases z : decide (w = zero) with
      | false => rfl
      | true => rw [z] at e4; cases e4
    · rw [e6]
      cases z : decide (w = zero) with
      | true => rfl
      | false => rw [z] at e4; cases e4
theorem r_integer_read (px : XP) (as : List DL.Arg) (Q : D → Prop) (h : F_integer_read.run as Q px) : t_integer_read px { nx := fun _ => Q .none, rt := Q } (startD n_integer_read as) := by
  obtain ⟨w, rfl, hl, hf, h⟩ := h
  refine ⟨hl, ?_⟩
  have k := ir2 (px := px) hl hf h
  unfold digs at k
  refine ite_t (b := decide (cutS w none (some 1) = minus)) (fun e => ⟨hl, ?_⟩) (fun e => ?_)
  · rw [if_pos (of_decide_eq_true e)] at k
    exact k
  · rw [if_neg (of_decide_eq_false e)] at k
    exact k
def F_Lis_number : FD := ⟨fun as P _ => ∃ w : Str, as = [.dat (.str w)] ∧ w.length ≤ sizeLine ∧ P (.bool (numB w)), fun as P P' Z Z' k _ ⟨w, e, h1, h⟩ => ⟨w, e, h1, k _ h⟩⟩
/-! _law_is_number -/
abbrev s_Lis_number : Stmt := top 27
abbrev n_Lis_number : List Str := ["_law_word", "_law_digits", "_law_x"]
theorem sc_Lis_number : FnScope n_Lis_number ["_law_word"] (defScope s_Lis_number) := ⟨rfl, rfl, rfl, by decide +kernel, rfl, by decide +kernel, by decide +kernel⟩
def t_Lis_number (px : XP) : TSD :=
  (sSeq (sSet 1 (tIfD (tTestD (dBi (gEqS false) (dSl gSlT (tValD 0) oNone (oSome (tCD (.int 1)))) (tCD (.str "-")))) (dSl gSlT (tValD 0) (oSome (tCD (.int 1))) oNone) (tValD 0)))
    (sSeq (sIf (tOrD (tTestD (dBi (gEqS false) (tValD 1) (tCD (.str "")))) (tTestD (dEqNil true (dComp (iS (tValD 1)) (.nm 2) (tTestD (dBi (gInS true) (tValD 2) (tCD (.str "0123456789")))) (tValD 2) [2])))) (sRet (tCD (.bool false))) sNext)
    (sRet (tOrV (dBi (gEqS false) (tValD 0) (tCD (.str "0"))) (dBi (gEqS true) (dBi gIx (tValD 1) (tCD (.int 0))) (tCD (.str "0")))))))
set_option maxHeartbeats 4000000 in
theorem d_Lis_number {G : Around → Prop} {P : Program} {w : World} {K : PySem.W.Frag} {mg : Str → Option Value} {base : Heap} {k : Nat} (B : Blt3 mg) {f : Addr} {cdv : Value} {A : Around} {outer : List Env} {s : Shared} {H : Hp} {E : XK} {C : Ct} {px : XP}
    (hr : Room k (A.deeper (envOfC "_law_is_number" (defScope s_Lis_number) s.heap.objs.size f cdv))) (hG : G (A.deeper (envOfC "_law_is_number" (defScope s_Lis_number) s.heap.objs.size f cdv))) (hx : XO (cxOf (L2.CX P w) P w K mg base n_Lis_number "_law_is_number" (defScope s_Lis_number) f cdv A outer s H E) C px (L2.CX P w) E) :
    PSDs (cxOf (L2.CX P w) P w K mg base n_Lis_number "_law_is_number" (defScope s_Lis_number) f cdv A outer s H E) C (defBody s_Lis_number) (t_Lis_number px) :=
  have nd := sc_Lis_number.nd
  (pssd_cons (psd_set 1 nd (pd_ifE (dt_eqS (PO.of (pd_slT (PO.of (pd_var (i := 0))) dp_none (dp_some pd_int))) (PO.of pd_str)) (pd_slT (PO.of (pd_var (i := 0))) (dp_some pd_int) dp_none) (pd_var (i := 0))))
    (pssd_cons (psd_if (dt_bool (dw_or (dt_eqS (PO.of (pd_var (i := 1))) (PO.of pd_str)) (dw_or1 (dt_neNil (room_u hr) (PO.of (PD.ofF (pf_compC (.nm 2) [("_law_x", 2)] rfl nd (DIC.of (di_str (pd_var (i := 1)))) (blk_by (N := n_Lis_number) (sc := defScope s_Lis_number) (by decide +kernel)) (by decide) (fun s H A cl fp => (pg_name (i := 2) nd rfl (by first | exact .inl rfl | exact .inr rfl) (by first | exact .inr rfl | exact .inl rfl))) (fun s H A cl fp => (dts_one (dt_ninS (PO.of (pd_var (i := 2))) (PO.of pd_str)))) (fun s H A cl fp => (pd_var (i := 2)))))))))) (pssd_one (psd_ret pd_bl)) pssd_nil)
    (pssd_one (psd_ret (pd_or (pd_eqS (PO.of (pd_var (i := 0))) (PO.of pd_str)) (pd_one (pd_neS (PO.of (pd_ix (PO.of (pd_var (i := 1))) (PO.of pd_int))) (PO.of pd_str))))))))
theorem dig_compL {P : D → Prop} {d : Str} {o0 : Slot} (hl : d.length ≤ sizeLine) (h : P (.bool (!allDig d))) :
    compD (.nm 2) (tTestD (dBi (gInS true) (tValD 2) (tCD (.str "0123456789")))) (tValD 2) [o0, .val (.str d), .un] (signsD d) [] fun x => gNil true x P := by
  have hsl : (signsD d).length ≤ sizeLine := by unfold signsD; rw [List.length_map]; rw [len_tl] at hl; exact hl
  have e1 : ((signsD d).filterMap fNot).isEmpty = allDig d := by
    unfold signsD allDig
    show _ = (d.cps.toList).all _
    generalize d.cps.toList = cs
    induction cs with
    | nil => rfl
    | cons c cs ih =>
      rw [List.map_cons, List.all_cons]
      have e : fNot (.str ⟨#[c]⟩) = if isFig ⟨#[c]⟩ = true then none else some (.str ⟨#[c]⟩) := rfl
      rw [isFig_one] at e
      cases z : decide (c ∈ (fig : Str).cps.toList) with
      | true =>
        rw [z, if_pos rfl] at e
        rw [List.filterMap_cons_none e, ih, Bool.true_and]
      | false =>
        rw [z, if_neg Bool.false_ne_true] at e
        rw [List.filterMap_cons_some e]
        rfl
  refine comp_pure fNot (signsD d) [] (fun x hx R r => ?_) (by show 0 + (signsD d).length ≤ sizeLine; omega) ?_
  · unfold signsD at hx
    obtain ⟨c, hc, rfl⟩ := List.mem_map.mp hx
    refine ⟨c, rfl, ?_⟩
    have r : R (if isFig ⟨#[c]⟩ = true then none else some (.str ⟨#[c]⟩)) := r
    rw [isFig_one] at r
    show if (!decide (c ∈ (fig : Str).cps.toList)) = true then R (some (.str ⟨#[c]⟩)) else R none
    cases z : decide (c ∈ (fig : Str).cps.toList) with
    | true => rw [z] at r; exact r
    | false => rw [z] at r; exact r
  · rw [List.nil_append]
    show P (.bool (!((signsD d).filterMap fNot).isEmpty))
    rw [e1]
    exact h
def t_in2 (px : XP) : TSD := (sSeq (sIf (tOrD (tTestD (dBi (gEqS false) (tValD 1) (tCD (.str "")))) (tTestD (dEqNil true (dComp (iS (tValD 1)) (.nm 2) (tTestD (dBi (gInS true) (tValD 2) (tCD (.str "0123456789")))) (tValD 2) [2])))) (sRet (tCD (.bool false))) sNext)
    (sRet (tOrV (dBi (gEqS false) (tValD 0) (tCD (.str "0"))) (dBi (gEqS true) (dBi gIx (tValD 1) (tCD (.int 0))) (tCD (.str "0"))))))
theorem in2 {px : XP} {Q : D → Prop} {w : Str} (hl : w.length ≤ sizeLine) (h : Q (.bool (numB w))) : t_in2 px { nx := fun _ => Q .none, rt := Q } [.val (.str w), .val (.str (digs w)), .un] := by
  have hdl : (digs w).length ≤ sizeLine := Nat.le_trans (dig_len w) hl
  have no : numB w = false → Q (.bool false) := fun e => by rw [e] at h; exact h
  refine ite_t (b := decide (digs w = "")) (fun e => no ?_) (fun e => ?_)
  · unfold numB
    rw [e]
    rfl
  refine dig_compL hdl ?_
  have e0 := of_decide_eq_false e
  cases e2 : allDig (digs w) with
  | false =>
    refine no ?_
    unfold numB
    rw [e2, Bool.false_and, Bool.and_false]
  | true =>
    obtain ⟨c, hc, hh⟩ := hd_ix e0
    have e5 : hd0 (digs w) = decide ((⟨#[c]⟩ : Str) = zero) := by
      unfold hd0
      rw [hh, one_zero]
    have e6 : numB w = (decide (w = zero) || !decide ((⟨#[c]⟩ : Str) = zero)) := by
      unfold numB
      rw [e, e2, e5]
      rfl
    rw [e6] at h
    refine ite_t (b := decide (w = zero)) (fun e4 => ?_) (fun e4 => ⟨hdl, c, hc, ?_⟩)
    · rw [e4] at h; exact h
    · rw [e4, Bool.false_or] at h; exact h
theorem r_Lis_number (px : XP) (as : List DL.Arg) (Q : D → Prop) (h : F_Lis_number.run as Q px) : t_Lis_number px { nx := fun _ => Q .none, rt := Q } (startD n_Lis_number as) := by
  obtain ⟨w, rfl, hl, h⟩ := h
  refine ⟨hl, ?_⟩
  have k := in2 (px := px) hl h
  unfold digs at k
  refine ite_t (b := decide (cutS w none (some 1) = minus)) (fun e => ⟨hl, ?_⟩) (fun e => ?_)
  · rw [if_pos (of_decide_eq_true e)] at k
    exact k
  · rw [if_neg (of_decide_eq_false e)] at k
    exact k
end Z

set_option maxHeartbeats 1000000
namespace Z
open PySem PySem.Spec PyProof.Rows L2 DL TL
/-! ### a table's text: plain -/
abbrev nl : Str := "\n"
abbrev sp : Str := " "
theorem nl_tl : tl nl = [10] := by decide +kernel
theorem sp_tl : tl sp = [32] := by decide +kernel
abbrev numT (i : Int) : Str := Str.ofString (toString i)
def tabH (i : Int) : Str := ("table " : Str) ++ numT i
def rowT (r : List Int) : Str := Txt.join sp (r.map numT)
def linesF : Nat → List (List Int) → List Str
  | _, [] => []
  | k, r :: m => rowT (r.take (k + 1)) :: linesF (k + 1) m
theorem linesF_len : ∀ (m : List (List Int)) (k : Nat), (linesF k m).length = m.length
  | [], _ => rfl
  | _ :: m, k => by show (linesF (k + 1) m).length + 1 = _; rw [linesF_len m (k + 1)]; rfl
def txt (m : List (List Int)) : Str := Txt.join nl (tabH (m.length : Int) :: linesF 0 m)
def rowOf (l : Str) (k : Nat) : Option (List Int) := if (Txt.split l sp).length = k ∧ (Txt.split l sp).all numB = true then some ((Txt.split l sp).map val) else none
def hdrF (l : Str) : Nat → Nat → Option Nat
  | _, 0 => none
  | t, c + 1 => if l = tabH (t : Int) then some t else hdrF l (t + 1) c
def hdr (l : Str) : Option Nat := hdrF l 1 12
def rowsA : List Str → List (List Int) → Nat → List (List Int) ⊕ Nat
  | [], acc, 0 => .inl acc
  | _ :: _, acc, 0 => .inr (acc.length + 2)
  | [], acc, _ + 1 => .inr (acc.length + 2)
  | l :: ls, acc, c + 1 => match rowOf l (acc.length + 1) with
    | none => .inr (acc.length + 2)
    | some r => rowsA ls (acc ++ [r]) c
def readL : List Str → List (List Int) ⊕ Nat
  | [] => .inr 1
  | h :: ls => match hdr h with
    | none => .inr 1
    | some n => rowsA ls [] n
def readP (z : Str) : List (List Int) ⊕ Nat := readL (Txt.split z nl)
def symT (rs : List (List Int)) : List (List Int) := (List.range rs.length).map fun i => (List.range rs.length).map fun j => at0 (rs.getD (max i j) []) (min i j)
def LFew (l : Str) : Prop := ∀ w ∈ Txt.split l sp, Few w
def Safe (z : Str) : Prop := ∀ l ∈ Txt.split z nl, LFew l
theorem hdrF_spec {l : Str} : ∀ {c t n : Nat}, hdrF l t c = some n → t ≤ n ∧ n < t + c ∧ l = tabH (n : Int)
  | 0, t, n, h => nomatch h
  | c + 1, t, n, h => by
    unfold hdrF at h
    split at h
    · rename_i e
      cases h
      exact ⟨Nat.le_refl _, by omega, e⟩
    · obtain ⟨h1, h2, h3⟩ := hdrF_spec h
      exact ⟨by omega, by omega, h3⟩
theorem rowOf_spec {l : Str} {k : Nat} {r : List Int} (h : rowOf l k = some r) (hf : LFew l) : r.length = k ∧ rowT r = l ∧ ∀ x ∈ r, Sd x := by
  unfold rowOf at h
  split at h
  · rename_i hc
    obtain ⟨h1, h2⟩ := hc
    cases h
    refine ⟨by rw [List.length_map]; exact h1, ?_, fun x hx => ?_⟩
    · unfold rowT
      have e : ((Txt.split l sp).map val).map numT = Txt.split l sp := by
        rw [List.map_map]
        have : ∀ w ∈ Txt.split l sp, (numT ∘ val) w = w := fun w hw => (few_val (List.all_eq_true.mp h2 w hw) (hf w hw)).tx
        rw [List.map_congr_left this, List.map_id']
      rw [e, join_eq]
      exact StrLaws.join_split l sp
    · obtain ⟨w, hw, rfl⟩ := List.mem_map.mp hx
      exact (few_val (List.all_eq_true.mp h2 w hw) (hf w hw)).sd
  · cases h
theorem rowsA_spec : ∀ {c : Nat} {ls : List Str} {acc rs : List (List Int)}, rowsA ls acc c = .inl rs → (∀ l ∈ ls, LFew l) →
    ∃ es : List (List Int), rs = acc ++ es ∧ es.length = c ∧ ls = es.map rowT ∧ (∀ i, i < es.length → (es.getD i []).length = acc.length + i + 1) ∧ ∀ e ∈ es, ∀ x ∈ e, Sd x
  | 0, [], acc, rs, h, _ => by
    cases h
    exact ⟨[], (List.append_nil _).symm, rfl, rfl, fun i hi => absurd hi (Nat.not_lt_zero _), fun e he => nomatch he⟩
  | 0, _ :: _, acc, rs, h, _ => nomatch h
  | c + 1, [], acc, rs, h, _ => nomatch h
  | c + 1, l :: ls, acc, rs, h, hf => by
    unfold rowsA at h
    cases e : rowOf l (acc.length + 1) with
    | none => rw [e] at h; cases h
    | some r =>
      rw [e] at h
      obtain ⟨k1, k2, k3⟩ := rowOf_spec e (hf l List.mem_cons_self)
      obtain ⟨es, rfl, e2, e3, e4, e5⟩ := rowsA_spec h fun x hx => hf x (List.mem_cons_of_mem _ hx)
      refine ⟨r :: es, by rw [List.append_assoc]; rfl, by rw [List.length_cons, e2], by rw [List.map_cons, k2, ← e3], fun i hi => ?_, fun x hx => ?_⟩
      · cases i with
        | zero => exact k1
        | succ i =>
          have := e4 i (by rw [List.length_cons] at hi; omega)
          rw [List.length_append, List.length_singleton] at this
          show (es.getD i []).length = _
          omega
      · rcases List.mem_cons.mp hx with rfl | hx
        · exact k3
        · exact e5 x hx
structure Tri (rs : List (List Int)) : Prop where
  lo : 1 ≤ rs.length
  hi : rs.length ≤ 12
  row : ∀ i, i < rs.length → (rs.getD i []).length = i + 1
  sz : ∀ e ∈ rs, ∀ x ∈ e, Sd x
theorem at0_sd {r : List Int} (h : ∀ x ∈ r, Sd x) (i : Nat) : Sd (at0 r i) := by
  unfold at0
  by_cases hi : i < r.length
  · rw [List.getD_eq_getElem?_getD, List.getElem?_eq_getElem hi]
    exact h _ (List.getElem_mem hi)
  · rw [List.getD_eq_getElem?_getD, List.getElem?_eq_none (by omega)]
    exact Sd.zero
theorem getD_mem {rs : List (List Int)} {i : Nat} (h : i < rs.length) : rs.getD i [] ∈ rs := by
  rw [List.getD_eq_getElem?_getD, List.getElem?_eq_getElem h]
  exact List.getElem_mem h
theorem symT_len (rs : List (List Int)) : (symT rs).length = rs.length := by unfold symT; rw [List.length_map, List.length_range]
theorem symT_row {rs : List (List Int)} {i : Nat} (h : i < rs.length) : (symT rs).getD i [] = (List.range rs.length).map fun j => at0 (rs.getD (max i j) []) (min i j) := by
  unfold symT
  rw [List.getD_eq_getElem?_getD, List.getElem?_map, List.getElem?_range h]
  rfl
theorem symT_entry {rs : List (List Int)} {i j : Nat} (hi : i < rs.length) (hj : j < rs.length) : entry (symT rs) i j = at0 (rs.getD (max i j) []) (min i j) := by
  unfold entry
  rw [symT_row hi]
  show ((List.range rs.length).map _).getD j 0 = _
  rw [List.getD_eq_getElem?_getD, List.getElem?_map, List.getElem?_range hj]
  rfl
theorem symT_good {rs : List (List Int)} (h : Tri rs) : Good (symT rs) rs.length where
  sq := ⟨symT_len rs, fun r hr => by
    unfold symT at hr
    obtain ⟨i, _, rfl⟩ := List.mem_map.mp hr
    rw [List.length_map, List.length_range]⟩
  lo := h.lo
  hi := h.hi
  sym := fun i j hi hj => by rw [symT_entry hi hj, symT_entry hj hi, Nat.max_comm, Nat.min_comm]
  sz := fun r hr x hx => by
    unfold symT at hr
    obtain ⟨i, hi, rfl⟩ := List.mem_map.mp hr
    obtain ⟨j, hj, rfl⟩ := List.mem_map.mp hx
    have hi := List.mem_range.mp hi
    have hj := List.mem_range.mp hj
    exact at0_sd (h.sz _ (getD_mem (by omega))) _
theorem linesF_eq : ∀ (m : List (List Int)) (k : Nat), linesF k m = (List.range m.length).map fun i => rowT ((m.getD i []).take (i + k + 1))
  | [], k => rfl
  | r :: m, k => by
    rw [List.length_cons, List.range_succ_eq_map, List.map_cons, List.map_map]
    show rowT (r.take (k + 1)) :: linesF (k + 1) m = _
    rw [linesF_eq m (k + 1)]
    congr 1
    · rw [Nat.zero_add]; rfl
    · apply List.map_congr_left
      intro i _
      show rowT ((m.getD i []).take (i + (k + 1) + 1)) = rowT (((r :: m).getD (i + 1) []).take (i + 1 + k + 1))
      rw [show i + (k + 1) + 1 = i + 1 + k + 1 by omega]
      rfl
theorem symT_lines {rs : List (List Int)} (h : Tri rs) : linesF 0 (symT rs) = rs.map rowT := by
  rw [linesF_eq, symT_len]
  apply List.ext_getElem
  · rw [List.length_map, List.length_range, List.length_map]
  · intro i h1 h2
    rw [List.length_map, List.length_range] at h1
    rw [List.getElem_map, List.getElem_map, List.getElem_range, symT_row h1]
    have e0 : rs.getD i [] = rs[i] := by rw [List.getD_eq_getElem?_getD, List.getElem?_eq_getElem h1]; rfl
    have hl := h.row i h1
    rw [e0] at hl
    congr 1
    apply List.ext_getElem
    · rw [List.length_take, List.length_map, List.length_range, hl]
      omega
    · intro j h3 h4
      rw [List.length_take, List.length_map, List.length_range] at h3
      rw [List.getElem_take, List.getElem_map, List.getElem_range, Nat.max_eq_left (by omega), Nat.min_eq_right (by omega), e0]
      show rs[i].getD j 0 = _
      rw [List.getD_eq_getElem?_getD, List.getElem?_eq_getElem h4]
      rfl
theorem rowsA_tri {ls : List Str} {n : Nat} {rs : List (List Int)} (lo : 1 ≤ n) (hi : n ≤ 12) (h : rowsA ls [] n = .inl rs) (hf : ∀ l ∈ ls, LFew l) : rs.length = n ∧ Tri rs ∧ ls = rs.map rowT := by
  obtain ⟨es, e1, e2, e3, e4, e5⟩ := rowsA_spec h hf
  rw [List.nil_append] at e1
  subst e1
  refine ⟨e2, ⟨by omega, by omega, fun i hi => ?_, e5⟩, e3⟩
  rw [e4 i hi]
  show 0 + i + 1 = i + 1
  omega
theorem read_back {z : Str} {rs : List (List Int)} (h : readP z = .inl rs) (hf : Safe z) : Tri rs ∧ txt (symT rs) = z := by
  unfold readP at h
  unfold Safe at hf
  have ej := StrLaws.join_split z nl
  generalize Txt.split z nl = L at h hf ej
  cases L with
  | nil => cases h
  | cons l ls =>
    have h : (match hdr l with
      | none => .inr 1
      | some n => rowsA ls [] n : List (List Int) ⊕ Nat) = .inl rs := h
    cases e : hdr l with
    | none => rw [e] at h; cases h
    | some n =>
      rw [e] at h
      obtain ⟨h1, h2, h3⟩ := hdrF_spec e
      obtain ⟨k1, k2, k3⟩ := rowsA_tri h1 (by omega) h fun x hx => hf x (List.mem_cons_of_mem _ hx)
      refine ⟨k2, ?_⟩
      unfold txt
      rw [symT_len, k1, symT_lines k2, ← h3, ← k3, join_eq]
      exact ej
/-! ### signs of texts -/
theorem mem_joinL {S : List Nat} {c : Nat} : ∀ {ps : List (List Nat)}, c ∈ joinL S ps → c ∈ S ∨ ∃ p ∈ ps, c ∈ p
  | [], h => nomatch h
  | [p], h => .inr ⟨p, List.mem_cons_self, h⟩
  | p :: q :: r, h => by
    have h : c ∈ p ++ (S ++ joinL S (q :: r)) := h
    rcases List.mem_append.mp h with h | h
    · exact .inr ⟨p, List.mem_cons_self, h⟩
    · rcases List.mem_append.mp h with h | h
      · exact .inl h
      · exact (mem_joinL h).imp id fun ⟨x, h1, h2⟩ => ⟨x, List.mem_cons_of_mem _ h1, h2⟩
theorem infix_joinL {S p : List Nat} : ∀ {ps : List (List Nat)}, p ∈ ps → p <:+: joinL S ps
  | [], h => nomatch h
  | [q], h => by
    rw [List.mem_singleton.mp h]
    exact List.infix_refl _
  | q :: q' :: r, h => by
    show p <:+: q ++ (S ++ joinL S (q' :: r))
    rcases List.mem_cons.mp h with rfl | h
    · exact (List.prefix_append _ _).isInfix
    · exact (infix_joinL h).trans ((List.suffix_append _ _).isInfix.trans (List.suffix_append _ _).isInfix)
theorem part_infix {x y p : Str} (h : p ∈ Txt.split x y) : tl p <:+: tl x := by
  have e := congrArg tl (StrLaws.join_split x y)
  rw [tl_join] at e
  rw [← e]
  exact infix_joinL (List.mem_map_of_mem h)
theorem mem_join {y : Str} {ps : List Str} {c : Nat} (h : c ∈ tl (Txt.join y ps)) : c ∈ tl y ∨ ∃ p ∈ ps, c ∈ tl p := by
  rw [join_eq, tl_join] at h
  refine (mem_joinL h).imp id fun ⟨p, h1, h2⟩ => ?_
  obtain ⟨q, hq, rfl⟩ := List.mem_map.mp h1
  exact ⟨q, hq, h2⟩
theorem numT_signs (i : Int) {c : Nat} (h : c ∈ tl (numT i)) : c = 45 ∨ (48 ≤ c ∧ c ≤ 57) := by
  rcases Int.lt_or_le i 0 with hi | hi
  · obtain ⟨v, rfl⟩ : ∃ v : Nat, i = -(v : Int) := ⟨i.natAbs, by omega⟩
    unfold numT at h
    rw [tl_neg (by omega)] at h
    rcases List.mem_cons.mp h with rfl | h
    · exact .inl rfl
    · exact .inr (numL_digits v c h)
  · obtain ⟨v, rfl⟩ : ∃ v : Nat, i = (v : Int) := ⟨i.natAbs, by omega⟩
    unfold numT at h
    rw [tl_num] at h
    exact .inr (numL_digits v c h)
theorem table_tl : tl ("table " : Str) = [116, 97, 98, 108, 101, 32] := by decide +kernel
theorem tabH_signs {i : Int} {c : Nat} (h : c ∈ tl (tabH i)) : 32 ≤ c ∧ c ≤ 116 := by
  unfold tabH at h
  rw [tl_append, table_tl] at h
  rcases List.mem_append.mp h with h | h
  · simp only [List.mem_cons, List.not_mem_nil, or_false] at h
    omega
  · have := numT_signs i h
    omega
theorem rowT_signs {r : List Int} {c : Nat} (h : c ∈ tl (rowT r)) : 32 ≤ c ∧ c ≤ 57 := by
  rcases mem_join h with h | ⟨p, hp, h⟩
  · rw [sp_tl] at h
    simp only [List.mem_cons, List.not_mem_nil, or_false] at h
    omega
  · obtain ⟨x, _, rfl⟩ := List.mem_map.mp hp
    have := numT_signs x h
    omega
theorem linesF_mem {m : List (List Int)} {l : Str} : ∀ {k : Nat}, l ∈ linesF k m → ∃ i r, r ∈ m ∧ l = rowT (r.take (i + 1)) := by
  induction m with
  | nil => intro k h; nomatch h
  | cons r m ih =>
    intro k h
    rcases List.mem_cons.mp h with rfl | h
    · exact ⟨k, r, List.mem_cons_self, rfl⟩
    · obtain ⟨i, r', h1, h2⟩ := ih h
      exact ⟨i, r', List.mem_cons_of_mem _ h1, h2⟩
theorem split_txt (m : List (List Int)) : Txt.split (txt m) nl = tabH (m.length : Int) :: linesF 0 m := by
  unfold txt
  refine TL.split_join (s := 10) (S := []) nl_tl (by decide +kernel) (by simp) fun p hp h => ?_
  rcases List.mem_cons.mp hp with rfl | hp
  · have := tabH_signs h; omega
  · obtain ⟨i, r, _, rfl⟩ := linesF_mem hp
    have := rowT_signs h; omega
theorem few_own {i : Int} (h : Sd i) : Few (numT i) := fun _ => own_digs h
theorem txt_signs {m : List (List Int)} {c : Nat} (h : c ∈ tl (txt m)) : c < 128 := by
  rcases mem_join h with h | ⟨p, hp, h⟩
  · rw [nl_tl] at h
    simp only [List.mem_cons, List.not_mem_nil, or_false] at h
    omega
  · rcases List.mem_cons.mp hp with rfl | hp
    · have := tabH_signs h; omega
    · obtain ⟨i, r, _, rfl⟩ := linesF_mem hp
      have := rowT_signs h; omega
theorem txt_safe {m : List (List Int)} {n : Nat} (g : Good m n) : Safe (txt m) := by
  unfold Safe
  rw [split_txt]
  intro l hl w hw
  rcases List.mem_cons.mp hl with rfl | hl
  · have e : Txt.split (tabH (m.length : Int)) sp = [("table" : Str), numT (m.length : Int)] := by
      have e1 : tabH (m.length : Int) = Txt.join sp [("table" : Str), numT (m.length : Int)] := by
        rw [join_eq]
        show ("table " : Str) ++ numT _ = ("table" : Str) ++ sp ++ numT _
        congr 1
      rw [e1]
      refine TL.split_join (s := 32) (S := []) sp_tl (by decide +kernel) (by simp) fun p hp h => ?_
      simp only [List.mem_cons, List.not_mem_nil, or_false] at hp
      rcases hp with rfl | rfl
      · exact absurd h (by decide +kernel)
      · have := numT_signs _ h; omega
    rw [e] at hw
    simp only [List.mem_cons, List.not_mem_nil, or_false] at hw
    rcases hw with rfl | rfl
    · intro h
      exact absurd h (by decide +kernel)
    · refine few_own ?_
      have := g.hi
      rw [g.sq.len]
      unfold Sd
      rw [Int.natAbs_natCast]
      exact Nat.lt_of_le_of_lt this (by decide)
  · obtain ⟨i, r, hr, rfl⟩ := linesF_mem hl
    have hrl := g.sq.row r hr
    have lo := g.lo
    have e : Txt.split (rowT (r.take (i + 1))) sp = (r.take (i + 1)).map numT := by
      refine TL.split_join (s := 32) (S := []) sp_tl (by decide +kernel) (fun z => ?_) fun p hp h => ?_
      · have := congrArg List.length z
        rw [List.length_map, List.length_take, List.length_nil] at this
        omega
      · obtain ⟨x, _, rfl⟩ := List.mem_map.mp hp
        have := numT_signs x h; omega
    rw [e] at hw
    obtain ⟨x, hx, rfl⟩ := List.mem_map.mp hw
    exact few_own (g.sz r hr x (List.mem_of_mem_take hx))
/-! ### more than twenty digits in a row -/
def isD (c : Nat) : Bool := decide (c ∈ (fig : Str).cps.toList)
def lngF : Nat → List Nat → Bool
  | _, [] => false
  | m, c :: cs => if 20 < (if isD c = true then m + 1 else 0) then true else lngF (if isD c = true then m + 1 else 0) cs
def long (z : Str) : Bool := lngF 0 (tl z)
theorem lngF_app : ∀ (a : List Nat) {l : List Nat} {m : Nat}, lngF m (a ++ l) = false → ∃ m', lngF m' l = false
  | [], l, m, h => ⟨m, h⟩
  | c :: a, l, m, h => by
    have h : lngF m (c :: (a ++ l)) = false := h
    unfold lngF at h
    by_cases hm : 20 < (if isD c = true then m + 1 else 0)
    · rw [if_pos hm] at h; cases h
    · rw [if_neg hm] at h
      exact lngF_app a h
theorem lngF_run : ∀ (b : List Nat) {l : List Nat} {m : Nat}, b.all isD = true → lngF m (b ++ l) = false → m ≤ 20 → m + b.length ≤ 20
  | [], l, m, _, _, h => h
  | c :: b, l, m, hd, h, hm => by
    rw [List.all_cons, Bool.and_eq_true] at hd
    have h : lngF m (c :: (b ++ l)) = false := h
    unfold lngF at h
    rw [if_pos hd.1] at h
    split at h
    · cases h
    · rename_i h2
      have := lngF_run b hd.2 h (by omega)
      rw [List.length_cons]
      omega
theorem not_long {z : Str} (h : long z = false) {b : List Nat} (hb : b <:+: tl z) (hd : b.all isD = true) : b.length ≤ 21 := by
  obtain ⟨a, t, e⟩ := hb
  unfold long at h
  rw [← e, List.append_assoc] at h
  obtain ⟨m', h⟩ := lngF_app a h
  cases b with
  | nil => exact Nat.zero_le _
  | cons c b =>
    rw [List.all_cons, Bool.and_eq_true] at hd
    have h : lngF m' (c :: (b ++ t)) = false := h
    unfold lngF at h
    rw [if_pos hd.1] at h
    split at h
    · cases h
    · rename_i h2
      have := lngF_run b hd.2 h (by omega)
      rw [List.length_cons]
      omega
theorem long_safe {z : Str} (h : long z = false) : Safe z := by
  intro l hl w hw hn
  have i1 := part_infix hl
  have i2 := part_infix hw
  have i3 : tl (digs w) <:+: tl w := by
    unfold digs
    split
    · rw [cutS_d]
      exact (List.drop_suffix _ _).isInfix
    · exact List.infix_refl _
  rw [len_tl]
  refine not_long h (i3.trans (i2.trans i1)) ?_
  unfold numB at hn
  rw [Bool.and_eq_true, Bool.and_eq_true] at hn
  exact hn.2.1
/-! ### lengths -/
theorem numT_len {i : Int} (h : Sd i) : (numT i).length ≤ 22 := int_text i (k := 21) (by decide) h
theorem join_len (y : Str) (ps : List Str) : (Txt.join y ps).length ≤ (ps.map (·.length)).sum + ps.length * y.length := by
  rw [join_eq]
  cases ps with
  | nil => exact Nat.zero_le _
  | cons a l =>
    rw [len_join_cons, List.length_cons, Nat.add_mul]
    omega
theorem sum_le {b : Nat} : ∀ {ps : List Str}, (∀ p ∈ ps, p.length ≤ b) → (ps.map (·.length)).sum ≤ b * ps.length
  | [], _ => Nat.zero_le _
  | p :: ps, h => by
    rw [List.map_cons, List.sum_cons, List.length_cons, Nat.mul_add]
    have := sum_le fun q hq => h q (List.mem_cons_of_mem _ hq)
    have := h p List.mem_cons_self
    omega
theorem row_sum {r : List Int} (h : ∀ x ∈ r, Sd x) (hl : r.length ≤ 12) : ((r.map numT).map (·.length)).sum + (r.map numT).length * sp.length ≤ 276 := by
  have := sum_le (b := 22) (ps := r.map numT) fun p hp => by
    obtain ⟨x, hx, rfl⟩ := List.mem_map.mp hp
    exact numT_len (h x hx)
  rw [List.length_map] at this ⊢
  have e : sp.length = 1 := by decide +kernel
  rw [e]
  omega
theorem rowT_len {r : List Int} (h : ∀ x ∈ r, Sd x) (hl : r.length ≤ 12) : (rowT r).length ≤ 276 := Nat.le_trans (join_len _ _) (row_sum h hl)
theorem tabH_len {n : Nat} (h : n ≤ 12) : (tabH (n : Int)).length ≤ 28 := by
  unfold tabH
  rw [strLen_append]
  have e : ("table " : Str).length = 6 := by decide +kernel
  have := numT_len (i := (n : Int)) (by unfold Sd; rw [Int.natAbs_natCast]; exact Nat.lt_of_le_of_lt h (by decide))
  omega
theorem txt_sum {m : List (List Int)} {n : Nat} (g : Good m n) : ((tabH (m.length : Int) :: linesF 0 m).map (·.length)).sum + (tabH (m.length : Int) :: linesF 0 m).length * nl.length ≤ 3601 := by
  have := sum_le (b := 276) (ps := tabH (m.length : Int) :: linesF 0 m) fun p hp => by
    rcases List.mem_cons.mp hp with rfl | hp
    · have := tabH_len (n := m.length) (by rw [g.sq.len]; exact g.hi)
      omega
    · obtain ⟨i, r, hr, rfl⟩ := linesF_mem hp
      refine rowT_len (fun x hx => g.sz r hr x (List.mem_of_mem_take hx)) ?_
      rw [List.length_take, g.sq.row r hr]
      have := g.hi
      omega
  have e : nl.length = 1 := by decide +kernel
  have hi := g.hi
  rw [List.length_cons, linesF_len, g.sq.len] at this ⊢
  rw [e]
  omega
theorem txt_len {m : List (List Int)} {n : Nat} (g : Good m n) : (txt m).length ≤ 3601 := Nat.le_trans (join_len _ _) (txt_sum g)
end Z

set_option maxHeartbeats 4000000
namespace Z
open PySem PySem.Spec PyProof.Rows L2 DL TL
/-! ### read_table -/
theorem cut_to (l : List D) (a : Nat) : DL.cutD l none (some (a : Int)) = l.take a := by
  unfold DL.cutD
  rw [HT.sIx_none, HT.sIx_nat, List.drop_zero, Nat.sub_zero, List.take_eq_take_iff]
  omega
theorem cut_from (l : List D) (a : Nat) : DL.cutD l (some (a : Int)) none = l.drop a := by
  unfold DL.cutD
  rw [HT.sIx_none, HT.sIx_nat]
  rcases Nat.le_total a l.length with h | h
  · rw [Nat.min_eq_left h]
    exact List.take_of_length_le (by rw [List.length_drop]; omega)
  · rw [Nat.min_eq_right h, List.drop_of_length_le (Nat.le_refl _), List.drop_of_length_le h]
    exact List.take_nil
theorem sd_log {i : Int} (h : Sd i) : i.natAbs.log2 < 1920 := log2_small (Nat.lt_of_lt_of_le h.sm (Nat.pow_le_pow_right (by decide) (by decide)))
theorem nat_sd {n : Nat} (h : n ≤ 1000) : Sd (n : Int) := by unfold Sd; rw [Int.natAbs_natCast]; exact Nat.lt_of_le_of_lt h (by decide)
theorem tabH_fit {n : Nat} (h : n ≤ 1000) : (("table " : Str) ++ numT (n : Int)).length ≤ sizeLine := by
  rw [strLen_append]
  have e : ("table " : Str).length = 6 := by decide +kernel
  have := numT_len (nat_sd h)
  have : 28 ≤ sizeLine := by decide
  omega
def noneOr (o : Option Nat) : D := match o with
  | none => .none
  | some n => .int (n : Int)
def F_places_read : FD := ⟨fun as P _ => ∃ l : Str, as = [.dat (.str l)] ∧ P (noneOr (hdr l)), fun as P P' Z Z' k _ ⟨l, e, h⟩ => ⟨l, e, k _ h⟩⟩
/-! places_read -/
abbrev s_places_read : Stmt := top 15
abbrev n_places_read : List Str := ["line", "many"]
theorem sc_places_read : FnScope n_places_read ["line"] (defScope s_places_read) := ⟨rfl, rfl, rfl, by decide +kernel, rfl, by decide +kernel, by decide +kernel⟩
def t_places_read (px : XP) : TSD :=
  (sSeq (sFor (iR2 (tCD (.int 1)) (dBi gAdd (tCD (.int 12)) (tCD (.int 1)))) (.nm 1) (sIf (tTestD (dBi (gEqS false) (tValD 0) (dFs "table " (tValD 1)))) (sRet (tValD 1)) sNext))
    (sRet (tCD .none)))
set_option maxHeartbeats 4000000 in
theorem d_places_read {G : Around → Prop} {P : Program} {w : World} {K : PySem.W.Frag} {mg : Str → Option Value} {base : Heap} {k : Nat} (B : Blt3 mg) {t_MOST_PLACES : Tok} (g_MOST_PLACES : mg "MOST_PLACES" = some (.int 12 t_MOST_PLACES)) {f : Addr} {cdv : Value} {A : Around} {outer : List Env} {s : Shared} {H : Hp} {E : XK} {C : Ct} {px : XP}
    (hr : Room k (A.deeper (envOfC "places_read" (defScope s_places_read) s.heap.objs.size f cdv))) (hG : G (A.deeper (envOfC "places_read" (defScope s_places_read) s.heap.objs.size f cdv))) (hx : XO (cxOf (L2.CX P w) P w K mg base n_places_read "places_read" (defScope s_places_read) f cdv A outer s H E) C px (L2.CX P w) E) :
    PSDs (cxOf (L2.CX P w) P w K mg base n_places_read "places_read" (defScope s_places_read) f cdv A outer s H E) C (defBody s_places_read) (t_places_read px) :=
  have nd := sc_places_read.nd
  (pssd_cons (psd_for (.nm 1) own_of rfl (di_range2 (by rfl) B.range pd_int (pd_add (PO.of (pd_glob (by rfl) g_MOST_PLACES)) (PO.of pd_int))) (pg_name (i := 1) nd rfl (.inl rfl)) (pssd_one (psd_if (dt_eqS (PO.of (pd_var (i := 0))) (PO.of (pd_fs (pd_var (i := 1))))) (pssd_one (psd_ret (pd_var (i := 1)))) pssd_nil)))
    (pssd_one (psd_ret pd_non)))
theorem loop_places {D : EndsD} {l : Str} : ∀ (c t : Nat) (o : Slot), t + c ≤ 1000 → (match hdrF l t c with
    | none => ∀ o, D.nx [.val (.str l), o]
    | some n => D.rt (.int (n : Int))) →
    forD (.nm 1) (sIf (tTestD (dBi (gEqS false) (tValD 0) (dFs "table " (tValD 1)))) (sRet (tValD 1)) sNext) D (rangeD (t : Int) 1 c) [.val (.str l), o]
  | 0, t, o, e, h => h o
  | c + 1, t, o, e, h => by
    rw [rangeD_succ]
    have e1 : (t : Int) + 1 = ((t + 1 : Nat) : Int) := by omega
    refine ⟨by decide, sd_log (nat_sd (by omega)), tabH_fit (by omega), ?_⟩
    unfold hdrF at h
    refine ite_t (b := decide (l = tabH (t : Int))) (fun e2 => ?_) (fun e2 => ?_)
    · rw [if_pos (of_decide_eq_true e2)] at h
      exact h
    · rw [if_neg (of_decide_eq_false e2)] at h
      rw [e1]
      exact loop_places c (t + 1) _ (by omega) h
theorem r_places_read (px : XP) (as : List DL.Arg) (Q : D → Prop) (h : F_places_read.run as Q px) : t_places_read px { nx := fun _ => Q .none, rt := Q } (startD n_places_read as) := by
  obtain ⟨l, rfl, h⟩ := h
  refine ⟨by decide, ?_⟩
  show forD _ _ _ (rangeD ((1 : Nat) : Int) 1 12) _
  refine loop_places 12 1 _ (by omega) ?_
  unfold hdr at h
  cases e : hdrF l 1 12 with
  | none => rw [e] at h; exact fun o => h
  | some n => rw [e] at h; exact h
def wordD (w : Str) : D := if numB w = true then .int (val w) else .none
def fWord (x : D) : Option D := match x with
  | .str w => some (wordD w)
  | _ => none
def wordO (w : Str) : Option Int := if numB w = true then some (val w) else none
theorem word_opt (ws : List Str) : ws.map wordD = (ws.map wordO).map optD := by
  rw [List.map_map]
  apply List.map_congr_left
  intro w _
  show wordD w = optD (wordO w)
  unfold wordD wordO
  split <;> rfl
theorem any_none (ws : List Str) : (!(ws.map wordO).any Option.isNone) = ws.all numB := by
  induction ws with
  | nil => rfl
  | cons w ws ih =>
    rw [List.map_cons, List.any_cons, List.all_cons, ← ih, Bool.not_or]
    congr 1
    unfold wordO
    cases numB w <;> rfl
theorem fm_some {α β : Type} {f : α → Option β} {g : α → β} : ∀ l : List α, (∀ x ∈ l, f x = some (g x)) → l.filterMap f = l.map g
  | [], _ => rfl
  | x :: l, h => by
    rw [List.filterMap_cons_some (h x List.mem_cons_self), fm_some l fun y hy => h y (List.mem_cons_of_mem _ hy)]
    rfl
def optRow (o : Option (List Int)) : D := match o with
  | none => .none
  | some r => ilist r
def F_entries_read : FD := ⟨fun as P _ => ∃ (l : Str) (k : Nat), as = [.dat (.str l), .dat (.int (k : Int))] ∧ l.length ≤ 1000000 ∧ LFew l ∧ P (optRow (rowOf l k)), fun as P P' Z Z' k _ ⟨l, n, e, h1, h2, h⟩ => ⟨l, n, e, h1, h2, k _ h⟩⟩
/-! entries_read -/
abbrev s_entries_read : Stmt := top 16
abbrev n_entries_read : List Str := ["line", "many", "words", "word"]
theorem sc_entries_read : FnScope n_entries_read ["line", "many"] (defScope s_entries_read) := ⟨rfl, rfl, rfl, by decide +kernel, rfl, by decide +kernel, by decide +kernel⟩
def t_entries_read (px : XP) : TSD :=
  (sSeq (sSet 2 (dComp (iL (dM1 gSplit (tValD 0) (tCD (.str " ")))) (.nm 3) tYesD (tCallD F_integer_read never (aCons (tValD 3) aNil)) [3]))
    (sRet (tIfD (tAndD (tTestD (dBi (gEqS false) (dUn gLen (tValD 2)) (tValD 1))) (tTestD (dBi (gNoneIn true) (tCD .none) (tValD 2)))) (tValD 2) (tCD .none))))
set_option maxHeartbeats 4000000 in
theorem d_entries_read {G : Around → Prop} {P : Program} {w : World} {K : PySem.W.Frag} {mg : Str → Option Value} {base : Heap} {k : Nat} (B : Blt3 mg) {f : Addr} {cdv : Value} {A : Around} {outer : List Env} {s : Shared} {H : Hp} {E : XK} {C : Ct} {px : XP}
    (hr : Room k (A.deeper (envOfC "entries_read" (defScope s_entries_read) s.heap.objs.size f cdv))) (hG : G (A.deeper (envOfC "entries_read" (defScope s_entries_read) s.heap.objs.size f cdv))) (hx : XO (cxOf (L2.CX P w) P w K mg base n_entries_read "entries_read" (defScope s_entries_read) f cdv A outer s H E) C px (L2.CX P w) E) (c_integer_read : Cal G P w K mg base k "integer_read" ["word"] C.q.w F_integer_read) :
    PSDs (cxOf (L2.CX P w) P w K mg base n_entries_read "entries_read" (defScope s_entries_read) f cdv A outer s H E) C (defBody s_entries_read) (t_entries_read px) :=
  have nd := sc_entries_read.nd
  (pssd_cons (psd_setLcC 2 (.nm 3) [("word", 3)] rfl nd (DIC.of (di_list (PD.ofF (pf_split (PO.of (pd_var (i := 0))) (PO.of pd_str))))) (blk_by (N := n_entries_read) (sc := defScope s_entries_read) (by decide +kernel)) (by decide) (fun s H A cl fp => (pg_name (i := 3) nd rfl (by first | exact .inl rfl | exact .inr rfl) (by first | exact .inr rfl | exact .inl rfl))) (fun s H A cl fp => dts_nil) (fun s H A cl fp => (pd_call c_integer_read hr hG xo_none (by rfl) (da_cons (pd_var (i := 3)) da_nil))))
    (pssd_one (psd_ret (pd_ifE (dt_bool (dw_and (dt_eqS (PO.of (pd_len (by rfl) B.len (PO.of (pd_var (i := 2))))) (PO.of (pd_var (i := 1)))) (dw_and1 (dt_noneNin (PO.of pd_non) (PO.of (pd_var (i := 2))))))) (pd_var (i := 2)) pd_non))))
theorem s6 {n : Nat} (h : n ≤ 1000002) : n ≤ sizeLine := Nat.le_trans h (by decide)
theorem r_entries_read (px : XP) (as : List DL.Arg) (Q : D → Prop) (h : F_entries_read.run as Q px) : t_entries_read px { nx := fun _ => Q .none, rt := Q } (startD n_entries_read as) := by
  obtain ⟨l, k, rfl, h1, h2, h⟩ := h
  refine ⟨⟨l, rfl⟩, by decide, s6 (by omega), ?_⟩
  have hp := split_le l sp
  refine comp_pure fWord _ [] (fun x hx R r => ?_) (by rw [List.length_map]; show 0 + (Txt.split l sp).length ≤ sizeLine; have := s6 (n := (Txt.split l sp).length) (by omega); omega) ?_
  · obtain ⟨w, hw, rfl⟩ := List.mem_map.mp hx
    exact ⟨w, rfl, s6 (by have := part_short hw; omega), h2 w hw, r⟩
  · have e : ((Txt.split l sp).map PyData.str).filterMap fWord = (Txt.split l sp).map wordD := by
      rw [List.filterMap_map, ← List.filterMap_eq_map]
      rfl
    rw [List.nil_append, e]
    unfold rowOf at h
    refine ite_t (b := decide ((((Txt.split l sp).map wordD).length : Int) = (k : Int))) (fun e1 => ?_) (fun e1 => ?_)
    · have e1 := of_decide_eq_true e1
      rw [List.length_map] at e1
      have e1 : (Txt.split l sp).length = k := by omega
      refine ⟨(Txt.split l sp).map wordO, word_opt _, ?_⟩
      show if (!((Txt.split l sp).map wordO).any Option.isNone) = true then _ else _
      rw [any_none]
      refine ite_t (b := (Txt.split l sp).all numB) (fun e2 => ?_) (fun e2 => ?_)
      · rw [if_pos ⟨e1, e2⟩] at h
        have e3 : (Txt.split l sp).map wordD = ((Txt.split l sp).map val).map PyData.int := by
          rw [List.map_map]
          apply List.map_congr_left
          intro w hw
          show wordD w = _
          unfold wordD
          rw [if_pos (List.all_eq_true.mp e2 w hw)]
          rfl
        show Q (.list _)
        rw [e3]
        exact h
      · rw [if_neg (fun z => by rw [z.2] at e2; cases e2)] at h
        exact h
    · have e1 := of_decide_eq_false e1
      rw [if_neg (fun z => e1 (by rw [List.length_map]; omega))] at h
      exact h
def symRow (rs : List (List Int)) (i : Nat) : List Int := (List.range rs.length).map fun j => at0 (rs.getD (max i j) []) (min i j)
theorem symT_eq (rs : List (List Int)) : symT rs = (List.range rs.length).map (symRow rs) := rfl
theorem symRow_eq {rs : List (List Int)} (h : Tri rs) {k : Nat} (hk : k < rs.length) : symRow rs k = rs.getD k [] ++ (rs.drop (k + 1)).map fun r => at0 r k := by
  have hl := h.row k hk
  apply List.ext_getElem
  · unfold symRow
    rw [List.length_map, List.length_range, List.length_append, List.length_map, List.length_drop, hl]
    omega
  · intro j h1 h2
    unfold symRow at h1 ⊢
    rw [List.length_map, List.length_range] at h1
    rw [List.getElem_map, List.getElem_range]
    rcases Nat.lt_or_ge j (k + 1) with hj | hj
    · rw [List.getElem_append_left (by omega), Nat.max_eq_left (by omega), Nat.min_eq_right (by omega)]
      show (rs.getD k []).getD j 0 = _
      rw [List.getD_eq_getElem?_getD, List.getElem?_eq_getElem (by omega)]
      rfl
    · rw [List.getElem_append_right (by omega), List.getElem_map, List.getElem_drop, Nat.max_eq_right (by omega), Nat.min_eq_left (by omega)]
      congr 1
      rw [List.getD_eq_getElem?_getD, List.getElem?_eq_getElem h1]
      show rs[j] = _
      congr 1
      omega
def F_whole_table : FD := ⟨fun as P _ => ∃ rs : List (List Int), as = [.dat (.list (rs.map ilist))] ∧ Tri rs ∧ P (tab (symT rs)), fun as P P' Z Z' k _ ⟨l, e, h1, h⟩ => ⟨l, e, h1, k _ h⟩⟩
/-! whole_table -/
abbrev s_whole_table : Stmt := top 17
abbrev n_whole_table : List Str := ["halves", "found", "i", "half", "other"]
theorem sc_whole_table : FnScope n_whole_table ["halves"] (defScope s_whole_table) := ⟨rfl, rfl, rfl, by decide +kernel, rfl, by decide +kernel, by decide +kernel⟩
def t_whole_table (px : XP) : TSD :=
  (sSeq (sSetF 1 (dLst lNil))
    (sSeq (sFor (iEnumL (tValD 0)) (.tup [2, 3]) (sAppend 1 (dUn gTuple (dBi gCat (tValD 3) (dComp (iL (dSl gSlL (tValD 0) (oSome (dBi gAdd (tValD 2) (tCD (.int 1)))) oNone)) (.nm 4) tYesD (dBi gIx (tValD 4) (tValD 2)) [4])))))
    (sRet (dUn gTuple (tOwnD 1)))))
set_option maxHeartbeats 4000000 in
theorem d_whole_table {G : Around → Prop} {P : Program} {w : World} {K : PySem.W.Frag} {mg : Str → Option Value} {base : Heap} {k : Nat} (B : Blt3 mg) {f : Addr} {cdv : Value} {A : Around} {outer : List Env} {s : Shared} {H : Hp} {E : XK} {C : Ct} {px : XP}
    (hr : Room k (A.deeper (envOfC "whole_table" (defScope s_whole_table) s.heap.objs.size f cdv))) (hG : G (A.deeper (envOfC "whole_table" (defScope s_whole_table) s.heap.objs.size f cdv))) (hx : XO (cxOf (L2.CX P w) P w K mg base n_whole_table "whole_table" (defScope s_whole_table) f cdv A outer s H E) C px (L2.CX P w) E) :
    PSDs (cxOf (L2.CX P w) P w K mg base n_whole_table "whole_table" (defScope s_whole_table) f cdv A outer s H E) C (defBody s_whole_table) (t_whole_table px) :=
  have nd := sc_whole_table.nd
  (pssd_cons (psd_setF 1 nd (pf_lst ds_nil))
    (pssd_cons (psd_for (.tup [2, 3]) own_of rfl (di_enumL (by rfl) B.enumerate (pd_var (i := 0))) (pg_tup rfl (pgs_cons (pg_name (i := 2) nd rfl (.inr rfl)) (pgs_cons (pg_name (i := 3) nd rfl (.inl rfl)) pgs_nil))) (pssd_one (psd_append 1 (pd_tuple (by rfl) B.tuple (PO.of (PD.ofF (pf_cat (PO.of (pd_var (i := 3))) (PO.of (PD.ofF (pf_compC (.nm 4) [("other", 4)] rfl nd (DIC.of (di_list (PD.ofF (pf_slL (PO.of (pd_var (i := 0))) (dp_some (pd_add (PO.of (pd_var (i := 2))) (PO.of pd_int))) dp_none)))) (blk_by (N := n_whole_table) (sc := defScope s_whole_table) (by decide +kernel)) (by decide) (fun s H A cl fp => (pg_name (i := 4) nd rfl (by first | exact .inl rfl | exact .inr rfl) (by first | exact .inr rfl | exact .inl rfl))) (fun s H A cl fp => dts_nil) (fun s H A cl fp => (pd_ix (PO.of (pd_var (i := 4))) (PO.of (pd_var (i := 2)))))))))))))))
    (pssd_one (psd_ret (pd_tuple (by rfl) B.tuple (po_own (i := 1)))))))
def fAt (k : Nat) (x : D) : Option D := match x with
  | .list ds => L2.atI ds (k : Int)
  | _ => none
theorem loop_whole {D : EndsD} {rs : List (List Int)} (tr : Tri rs) (q : ∀ o2 o3 o4, D.nx [.val (.list (rs.map ilist)), .own ((List.range rs.length).map fun i => iTup (symRow rs i)), o2, o3, o4]) : ∀ (c k : Nat) (o2 o3 o4 : Slot), k + c = rs.length →
    forD (.tup [2, 3]) (sAppend 1 (dUn gTuple (dBi gCat (tValD 3) (dComp (iL (dSl gSlL (tValD 0) (oSome (dBi gAdd (tValD 2) (tCD (.int 1)))) oNone)) (.nm 4) tYesD (dBi gIx (tValD 4) (tValD 2)) [4])))) D (enumF k ((rs.map ilist).drop k)) [.val (.list (rs.map ilist)), .own ((List.range k).map fun i => iTup (symRow rs i)), o2, o3, o4]
  | 0, k, o2, o3, o4, e => by
    have e : k = rs.length := by omega
    rw [e, List.drop_of_length_le (by rw [List.length_map]; omega)]
    exact q _ _ _
  | c + 1, k, o2, o3, o4, e => by
    have hk : k < rs.length := by omega
    have hlt : k < (rs.map ilist).length := by rw [List.length_map]; exact hk
    have e0 : (rs.map ilist)[k] = ilist (rs.getD k []) := by rw [List.getElem_map]; simp [hk]
    have hhi := tr.hi
    rw [List.drop_eq_getElem_cons hlt, e0]
    refine ⟨rfl, ?_⟩
    show compD _ _ _ _ (DL.cutD (rs.map ilist) (some ((k : Int) + 1)) none) [] _
    rw [show (k : Int) + 1 = ((k + 1 : Nat) : Int) by omega, cut_from]
    refine comp_pure (fAt k) _ [] (fun x hx R r => ?_) (by rw [List.length_drop, List.length_map]; exact Nat.le_trans (show 0 + (rs.length - (k + 1)) ≤ 12 by omega) (by decide)) ?_
    · rw [← List.map_drop] at hx
      obtain ⟨y, hy, rfl⟩ := List.mem_map.mp hx
      obtain ⟨j, hj, rfl⟩ := List.mem_iff_getElem.mp hy
      rw [List.length_drop] at hj
      rw [List.getElem_drop] at r ⊢
      have hl := tr.row (k + 1 + j) (by omega)
      have e2 : rs.getD (k + 1 + j) [] = rs[k + 1 + j] := by rw [List.getD_eq_getElem?_getD, List.getElem?_eq_getElem (by omega)]; rfl
      rw [e2] at hl
      have ea := at_il (r := rs[k + 1 + j]) (i := k) (by omega)
      have r : R (L2.atI (rs[k + 1 + j].map PyData.int) (k : Int)) := r
      rw [ea] at r
      exact ⟨_, ea, r⟩
    · have e1 : ((rs.map ilist).drop (k + 1)).filterMap (fAt k) = ((rs.drop (k + 1)).map fun r => at0 r k).map PyData.int := by
        rw [← List.map_drop, List.filterMap_map, List.map_map]
        refine fm_some _ fun y hy => ?_
        obtain ⟨j, hj, rfl⟩ := List.mem_iff_getElem.mp hy
        rw [List.length_drop] at hj
        rw [List.getElem_drop]
        have hl := tr.row (k + 1 + j) (by omega)
        have e2 : rs.getD (k + 1 + j) [] = rs[k + 1 + j] := by rw [List.getD_eq_getElem?_getD, List.getElem?_eq_getElem (by omega)]; rfl
        rw [e2] at hl
        exact at_il (r := rs[k + 1 + j]) (i := k) (by omega)
      rw [List.nil_append, e1]
      have hl := tr.row k hk
      refine ⟨?_, ?_, ?_⟩
      · rw [il_len, List.length_map, List.length_map, List.length_drop, hl]
        exact Nat.le_trans (show k + 1 + (rs.length - (k + 1)) ≤ 12 by omega) (by decide)
      · rw [List.length_map, List.length_range]
        exact Nat.lt_of_lt_of_le (show k < 12 by omega) (by decide)
      · have e3 : (.tuple (il (rs.getD k []) ++ ((rs.drop (k + 1)).map fun r => at0 r k).map PyData.int) : DL.D) = iTup (symRow rs k) := by
          unfold iTup
          rw [symRow_eq tr hk, List.map_append]
          rfl
        rw [e3]
        have e4 : ((List.range k).map fun i => iTup (symRow rs i)) ++ [iTup (symRow rs k)] = (List.range (k + 1)).map fun i => iTup (symRow rs i) := by
          rw [List.range_succ, List.map_append]
          rfl
        rw [e4]
        exact loop_whole tr q c (k + 1) _ _ _ (by omega)
theorem r_whole_table (px : XP) (as : List DL.Arg) (Q : D → Prop) (h : F_whole_table.run as Q px) : t_whole_table px { nx := fun _ => Q .none, rt := Q } (startD n_whole_table as) := by
  obtain ⟨rs, rfl, tr, h⟩ := h
  refine ⟨by decide, ?_⟩
  show forD (.tup [2, 3]) _ _ (enumD (rs.map ilist)) _
  rw [enumD_F]
  refine loop_whole tr (fun o2 o3 o4 => ?_) rs.length 0 .un .un .un (by omega)
  show Q (.tuple ((List.range rs.length).map fun i => iTup (symRow rs i)))
  have e : tab (symT rs) = .tuple ((List.range rs.length).map fun i => iTup (symRow rs i)) := by
    show PyData.tuple ((symT rs).map iTup) = _
    rw [symT_eq, List.map_map]
    rfl
  rw [← e]
  exact h
def Okz (z : Str) : Prop := Safe z ∨ ∃ h ls, Txt.split z nl = h :: ls ∧ hdr h = none
def ReadR (P : D → Prop) (Z : Addr → Str → D → Prop) (s : List (List Int) ⊕ Nat) : Prop := match s with
  | .inl rs => P (tab (symT rs))
  | .inr e => Z CX "at" (.int (e : Int))
theorem ReadR.mono {P P' : D → Prop} {Z Z' : Addr → Str → D → Prop} (k : ∀ d, P d → P' d) (z : ∀ c n d, Z c n d → Z' c n d) {s} (h : ReadR P Z s) : ReadR P' Z' s := by
  cases s with
  | inl rs => exact k _ h
  | inr e => exact z _ _ _ h
def F_read_table : FD := ⟨fun as P Z => ∃ d, as = [.dat d] ∧ ((isa d "str" = false ∧ Z CX "at" (.int 0)) ∨ ∃ z, d = .str z ∧ z.length ≤ 1000000 ∧ Okz z ∧ ReadR P Z (readP z)), fun as P P' Z Z' k z ⟨d, e, h⟩ => ⟨d, e, h.imp (fun ⟨h1, h2⟩ => ⟨h1, z _ _ _ h2⟩) fun ⟨t, e, h1, h2, h3⟩ => ⟨t, e, h1, h2, h3.mono k z⟩⟩⟩
/-! read_table -/
abbrev s_read_table : Stmt := top 18
abbrev n_read_table : List Str := ["text", "lines", "many", "halves", "place", "entries"]
theorem sc_read_table : FnScope n_read_table ["text"] (defScope s_read_table) := ⟨rfl, rfl, rfl, by decide +kernel, rfl, by decide +kernel, by decide +kernel⟩
def t_read_table (px : XP) : TSD :=
  (sSeq (sIf (tNotD (tTestD (dUn (gIsi "str") (tValD 0)))) (sRaise px CX "at" (tCD (.int 0))) sNext)
    (sSeq (sSet 1 (dM1 gSplit (tValD 0) (tCD (.str "\n"))))
    (sSeq (sSet 2 (tCallD F_places_read px (aCons (dBi gIx (tValD 1) (tCD (.int 0))) aNil)))
    (sSeq (sIf (tTestD (dBi (gIsN2 false) (tValD 2) (tCD .none))) (sRaise px CX "at" (tCD (.int 1))) sNext)
    (sSeq (sSetF 3 (dLst lNil))
    (sSeq (sFor (iR1 (tValD 2)) (.nm 4) (sSeq (sSet 5 (tIfD (tTestD (dBi gLt (dBi gAdd (tValD 4) (tCD (.int 1))) (dUn gLen (tValD 1)))) (tCallD F_entries_read px (aCons (dBi gIx (tValD 1) (dBi gAdd (tValD 4) (tCD (.int 1)))) (aCons (dBi gAdd (tValD 4) (tCD (.int 1))) aNil))) (tCD .none)))
    (sSeq (sIf (tTestD (dBi (gIsN2 false) (tValD 5) (tCD .none))) (sRaise px CX "at" (dBi gAdd (tValD 4) (tCD (.int 2)))) sNext)
    (sAppend 3 (tValD 5)))))
    (sSeq (sIf (tTestD (dBi gGt (dUn gLen (tValD 1)) (dBi gAdd (tValD 2) (tCD (.int 1))))) (sRaise px CX "at" (dBi gAdd (tValD 2) (tCD (.int 2)))) sNext)
    (sFreeze 3 (sRet (tCallD F_whole_table px (aCons (tValD 3) aNil)))))))))))
set_option maxHeartbeats 4000000 in
theorem d_read_table {G : Around → Prop} {P : Program} {w : World} {K : PySem.W.Frag} {mg : Str → Option Value} {base : Heap} {k : Nat} (B : Blt3 mg) {f : Addr} {cdv : Value} {A : Around} {outer : List Env} {s : Shared} {H : Hp} {E : XK} {C : Ct} {px : XP}
    (hr : Room k (A.deeper (envOfC "read_table" (defScope s_read_table) s.heap.objs.size f cdv))) (hG : G (A.deeper (envOfC "read_table" (defScope s_read_table) s.heap.objs.size f cdv))) (hx : XO (cxOf (L2.CX P w) P w K mg base n_read_table "read_table" (defScope s_read_table) f cdv A outer s H E) C px (L2.CX P w) E) (c_places_read : Cal G P w K mg base k "places_read" ["line"] C.q.w F_places_read) (c_entries_read : Cal G P w K mg base k "entries_read" ["line", "many"] C.q.w F_entries_read) (c_whole_table : Cal G P w K mg base k "whole_table" ["halves"] C.q.w F_whole_table) (r_BadText : Rs P w K mg base "BadText" "at" CX) (hk : 2 ≤ k) :
    PSDs (cxOf (L2.CX P w) P w K mg base n_read_table "read_table" (defScope s_read_table) f cdv A outer s H E) C (defBody s_read_table) (t_read_table px) :=
  have nd := sc_read_table.nd
  (pssd_cons (psd_if (dt_not (dt_val (pd_isi "str" kits_str (by rfl) B.isinstance (by rfl) B.str (by decide +kernel) (PO.of (pd_var (i := 0)))))) (pssd_one (psd_raise rfl (L2.takes_of rfl rfl rfl rfl) r_BadText hr hk hx (by rfl) pd_int)) pssd_nil)
    (pssd_cons (psd_set 1 nd (PD.ofF (pf_split (PO.of (pd_var (i := 0))) (PO.of pd_str))))
    (pssd_cons (psd_set 2 nd (pd_call c_places_read hr hG hx (by rfl) (da_cons (pd_ix (PO.of (pd_var (i := 1))) (PO.of pd_int)) da_nil)))
    (pssd_cons (psd_if (dt_isN (PO.of (pd_var (i := 2)))) (pssd_one (psd_raise rfl (L2.takes_of rfl rfl rfl rfl) r_BadText hr hk hx (by rfl) pd_int)) pssd_nil)
    (pssd_cons (psd_setF 3 nd (pf_lst ds_nil))
    (pssd_cons (psd_for (.nm 4) own_of rfl (di_range1 (by rfl) B.range (pd_var (i := 2))) (pg_name (i := 4) nd rfl (.inl rfl)) (pssd_cons (psd_set 5 nd (pd_ifE (dt_lt (PO.of (pd_add (PO.of (pd_var (i := 4))) (PO.of pd_int))) (PO.of (pd_len (by rfl) B.len (PO.of (pd_var (i := 1)))))) (pd_call c_entries_read hr hG hx (by rfl) (da_cons (pd_ix (PO.of (pd_var (i := 1))) (PO.of (pd_add (PO.of (pd_var (i := 4))) (PO.of pd_int)))) (da_cons (pd_add (PO.of (pd_var (i := 4))) (PO.of pd_int)) da_nil))) pd_non))
    (pssd_cons (psd_if (dt_isN (PO.of (pd_var (i := 5)))) (pssd_one (psd_raise rfl (L2.takes_of rfl rfl rfl rfl) r_BadText hr hk hx (by rfl) (pd_add (PO.of (pd_var (i := 4))) (PO.of pd_int)))) pssd_nil)
    (pssd_one (psd_append 3 (pd_var (i := 5)))))))
    (pssd_cons (psd_if (dt_gt (PO.of (pd_len (by rfl) B.len (PO.of (pd_var (i := 1))))) (PO.of (pd_add (PO.of (pd_var (i := 2))) (PO.of pd_int)))) (pssd_one (psd_raise rfl (L2.takes_of rfl rfl rfl rfl) r_BadText hr hk hx (by rfl) (pd_add (PO.of (pd_var (i := 2))) (PO.of pd_int)))) pssd_nil)
    (pssd_freeze 3 (pssd_one (psd_ret (pd_call c_whole_table hr hG hx (by rfl) (da_cons (pd_var (i := 3)) da_nil))))))))))))
abbrev readBody (px : XP) : TSD := (sSeq (sSet 5 (tIfD (tTestD (dBi gLt (dBi gAdd (tValD 4) (tCD (.int 1))) (dUn gLen (tValD 1)))) (tCallD F_entries_read px (aCons (dBi gIx (tValD 1) (dBi gAdd (tValD 4) (tCD (.int 1)))) (aCons (dBi gAdd (tValD 4) (tCD (.int 1))) aNil))) (tCD .none)))
    (sSeq (sIf (tTestD (dBi (gIsN2 false) (tValD 5) (tCD .none))) (sRaise px CX "at" (dBi gAdd (tValD 4) (tCD (.int 2)))) sNext)
    (sAppend 3 (tValD 5))))
theorem loop_read {px : XP} {P : D → Prop} {D : EndsD} {z : Str} {n : Nat} (hn : n ≤ 12) {L : List Str}
    (fin : ∀ acc o4 o5, n + 1 ≤ L.length → acc.length = n → (L.length = n + 1 → Tri acc ∧ P (tab (symT acc))) → (n + 1 < L.length → px CX "at" (.int ((n + 2 : Nat) : Int))) → D.nx [.val (.str z), .val (.list (L.map .str)), .val (.int (n : Int)), .own (acc.map ilist), o4, o5]) :
    ∀ (c k : Nat) (pre rest : List Str) (acc : List (List Int)) (o4 o5 : Slot), L = pre ++ rest → pre.length = k + 1 → acc.length = k → k + c = n → (∀ l ∈ rest, LFew l ∧ l.length ≤ 1000000) → (∀ rs, rowsA rest acc c = .inl rs → Tri rs) → ReadR P px (rowsA rest acc c) →
      forD (.nm 4) (readBody px) D (rangeD (k : Int) 1 c) [.val (.str z), .val (.list (L.map .str)), .val (.int (n : Int)), .own (acc.map ilist), o4, o5]
  | 0, k, pre, [], acc, o4, o5, e, hp, ha, hk, hf, tr, h => by
    have hl := congrArg List.length e
    rw [List.length_append, List.length_nil] at hl
    exact fin acc _ _ (by omega) (by omega) (fun _ => ⟨tr _ rfl, h⟩) (fun z => absurd z (by omega))
  | 0, k, pre, l :: rest, acc, o4, o5, e, hp, ha, hk, hf, tr, h => by
    have hl := congrArg List.length e
    rw [List.length_append, List.length_cons] at hl
    have h : px CX "at" (.int ((acc.length + 2 : Nat) : Int)) := h
    rw [show acc.length = n by omega] at h
    exact fin acc _ _ (by omega) (by omega) (fun z => absurd z (by omega)) (fun _ => h)
  | c + 1, k, pre, [], acc, o4, o5, e, hp, ha, hk, hf, tr, h => by
    have hl := congrArg List.length e
    rw [List.length_append, List.length_nil] at hl
    rw [rangeD_succ]
    have h : px CX "at" (.int ((acc.length + 2 : Nat) : Int)) := h
    refine ite_t (b := decide ((k : Int) + 1 < ((L.map PyData.str).length : Int))) (fun e2 => ?_) (fun e2 => ?_)
    · have := of_decide_eq_true e2
      rw [List.length_map] at this
      omega
    · show px CX "at" (.int ((k : Int) + 2))
      rw [show (k : Int) + 2 = ((acc.length + 2 : Nat) : Int) by omega]
      exact h
  | c + 1, k, pre, l :: rest, acc, o4, o5, e, hp, ha, hk, hf, tr, h => by
    have hl := congrArg List.length e
    rw [List.length_append, List.length_cons] at hl
    rw [rangeD_succ]
    have e1 : (k : Int) + 1 = ((k + 1 : Nat) : Int) := by omega
    refine ite_t (b := decide ((k : Int) + 1 < ((L.map PyData.str).length : Int))) (fun e2 => ?_) (fun e2 => ?_)
    · have ea : L2.atI (L.map PyData.str) ((k : Int) + 1) = some (.str l) := by
        rw [e1]
        refine L2.atI_nat ?_
        rw [List.getElem?_map, e, List.getElem?_append_right (by omega), hp, Nat.sub_self]
        rfl
      obtain ⟨f1, f2⟩ := hf l List.mem_cons_self
      refine ⟨_, ea, l, k + 1, by rw [e1], f2, f1, ?_⟩
      unfold rowsA at h tr
      rw [ha] at h tr
      cases er : rowOf l (k + 1) with
      | none =>
        rw [er] at h
        have h : px CX "at" (.int ((k + 2 : Nat) : Int)) := h
        show px CX "at" (.int ((k : Int) + 2))
        rw [show (k : Int) + 2 = ((k + 2 : Nat) : Int) by omega]
        exact h
      | some r =>
        rw [er] at h tr
        refine ⟨by rw [List.length_map, ha]; exact Nat.lt_of_lt_of_le (show k < 12 by omega) (by decide), ?_⟩
        rw [e1]
        have e5 : acc.map ilist ++ [optRow (some r)] = (acc ++ [r]).map ilist := by rw [List.map_append]; rfl
        show forD _ _ _ _ [_, _, _, .own (acc.map ilist ++ [optRow (some r)]), _, _]
        rw [e5]
        exact loop_read hn fin c (k + 1) (pre ++ [l]) rest (acc ++ [r]) _ _ (by rw [e, List.append_assoc]; rfl) (by rw [List.length_append, hp]; rfl) (by rw [List.length_append, ha]; rfl) (by omega) (fun x hx => hf x (List.mem_cons_of_mem _ hx)) tr h
    · have := of_decide_eq_false e2
      rw [List.length_map] at this
      omega
theorem r_read_table (px : XP) (as : List DL.Arg) (Q : D → Prop) (h : F_read_table.run as Q px) : t_read_table px { nx := fun _ => Q .none, rt := Q } (startD n_read_table as) := by
  obtain ⟨d, rfl, h⟩ := h
  rcases h with ⟨h1, h⟩ | ⟨z, rfl, hz, ok, h⟩
  · exact ite_t (b := !isa d "str") (fun _ => h) (fun e => absurd e (by rw [h1]; decide))
  · refine ⟨⟨z, rfl⟩, by decide, s6 (by omega), ?_⟩
    have hlen : ∀ l ∈ Txt.split z nl, l.length ≤ 1000000 := fun l hl => by have := part_short hl; omega
    have hpos := split_pos z nl
    unfold readP at h
    unfold Okz Safe at ok
    generalize Txt.split z nl = L at *
    cases L with
    | nil => exact absurd hpos (Nat.not_succ_le_zero _)
    | cons l ls =>
      refine ⟨.str l, L2.atI_nat (j := 0) rfl, l, rfl, ?_⟩
      have h : ReadR Q px (match hdr l with
        | none => .inr 1
        | some n => rowsA ls [] n) := h
      cases e : hdr l with
      | none => rw [e] at h; exact h
      | some n =>
        rw [e] at h
        obtain ⟨n1, n2, n3⟩ := hdrF_spec e
        have ok : ∀ x ∈ ls, LFew x := by
          rcases ok with ok | ⟨h', ls', e2, e3⟩
          · exact fun x hx => ok x (List.mem_cons_of_mem _ hx)
          · cases e2
            rw [e] at e3
            cases e3
        refine ⟨by decide, ⟨by omega, by omega⟩, ?_⟩
        show forD _ _ _ (rangeD ((0 : Nat) : Int) 1 (((n : Nat) : Int)).toNat) _
        rw [Int.toNat_natCast]
        refine loop_read (P := Q) (by omega) (fun acc o4 o5 k1 k2 k3 k4 => ?_) n 0 [l] ls [] .un .un rfl rfl rfl (by omega) (fun x hx => ⟨ok x hx, hlen x (List.mem_cons_of_mem _ hx)⟩) (fun rs er => (rowsA_tri n1 (by omega) er ok).2.1) h
        refine ite_t (b := decide ((((l :: ls).map PyData.str).length : Int) > (n : Int) + 1)) (fun e4 => ?_) (fun e4 => ?_)
        · have e4 := of_decide_eq_true e4
          rw [List.length_map] at e4
          have := k4 (by omega)
          rw [show ((n + 2 : Nat) : Int) = (n : Int) + 2 by omega] at this
          exact this
        · have e4 := of_decide_eq_false e4
          rw [List.length_map] at e4
          obtain ⟨t, q⟩ := k3 (by omega)
          exact ⟨acc, rfl, t, q⟩
end Z

namespace Z
open PySem PySem.Spec PyProof.Rows L2 DL TL
/-! ### text_of, _law_text -/
def fStr (x : D) : Option D := match x with
  | .int i => some (.str (numT i))
  | _ => none
theorem fStr_map (r : List Int) : (r.map PyData.int).filterMap fStr = (r.map numT).map PyData.str := by
  rw [List.filterMap_map, List.map_map, ← List.filterMap_eq_map]
  rfl
structure Rw (r : List Int) : Prop where
  len : r.length ≤ 12
  sz : ∀ x ∈ r, Sd x
theorem Rw.take {r : List Int} (h : Rw r) (k : Nat) : Rw (r.take k) := ⟨by rw [List.length_take]; have := h.len; omega, fun x hx => h.sz x (List.mem_of_mem_take hx)⟩
theorem s12 {n : Nat} (h : n ≤ 1000) : n ≤ sizeLine := Nat.le_trans h (by decide)
theorem join_fit {r : List Int} (h : Rw r) : ((r.map numT).map (·.length)).sum + (r.map numT).length * sp.length ≤ 16777216 := Nat.le_trans (row_sum h.sz h.len) (by decide)
theorem cut_il (r : List Int) (k : Nat) : DL.cutD (r.map PyData.int) none (some ((k : Int) + 1)) = (r.take (k + 1)).map PyData.int := by
  rw [show (k : Int) + 1 = ((k + 1 : Nat) : Int) by omega, cut_to, List.map_take]
/-- the part for one row, the item in slot i of ρ -/
theorem row_join {ρ : List Slot} {i : Nat} (hi : i < ρ.length) {r : List Int} (h : Rw r) {P : D → Prop} (k : ∃ ys : List Str, (r.map numT).map PyData.str = ys.map PyData.str ∧ (ys.map (·.length)).sum + ys.length * sp.length ≤ 16777216 ∧ P (.str (Txt.join sp ys))) :
    compD (.nm i) tYesD (dUn gStr (tValD i)) ρ (r.map PyData.int) [] fun y => gJoin (.str sp) y P := by
  refine comp_pure fStr _ [] (fun x hx R q => ?_) (by rw [List.length_map]; have := h.len; exact s12 (by show 0 + r.length ≤ 1000; omega)) ?_
  · obtain ⟨j, hj, rfl⟩ := List.mem_map.mp hx
    show tValD i (ρ.set i (.val (.int j))) _
    unfold tValD
    rw [List.getElem?_set_self hi]
    exact ⟨sd_log (h.sz j hj), q⟩
  · rw [List.nil_append, fStr_map]
    exact k
theorem row_join2 {ρ : List Slot} {i : Nat} (hi : i < ρ.length) {r : List Int} (h : Rw r) {P : D → Prop} (k : P (.str (rowT r))) :
    compD (.nm i) tYesD (dUn gStr (tValD i)) ρ (r.map PyData.int) [] fun y => gJoin (.str sp) y P := row_join hi h ⟨r.map numT, rfl, join_fit h, k⟩
def F_table_lines : FD := ⟨fun as P _ => ∃ m n, as = [.dat (tab m)] ∧ Good m n ∧ P (.list ((tabH (m.length : Int) :: linesF 0 m).map PyData.str)), fun as P P' Z Z' k _ ⟨m, n, e, h1, h⟩ => ⟨m, n, e, h1, k _ h⟩⟩
/-! table_lines -/
abbrev s_table_lines : Stmt := top 12
abbrev n_table_lines : List Str := ["table", "lines", "place", "items", "entry"]
theorem sc_table_lines : FnScope n_table_lines ["table"] (defScope s_table_lines) := ⟨rfl, rfl, rfl, by decide +kernel, rfl, by decide +kernel, by decide +kernel⟩
def t_table_lines (px : XP) : TSD :=
  (sSeq (sSetF 1 (dLst (lCons (dFs "table " (dUn gLen (tValD 0))) lNil)))
    (sSeq (sFor (iEnumT (tValD 0)) (.tup [2, 3]) (sAppend 1 (dM1 gJoin (tCD (.str " ")) (dComp (iT (dSl gSlT (tValD 3) oNone (oSome (dBi gAdd (tValD 2) (tCD (.int 1)))))) (.nm 4) tYesD (dUn gStr (tValD 4)) [4]))))
    (sFreeze 1 (sRet (tValD 1)))))
set_option maxHeartbeats 4000000 in
theorem d_table_lines {G : Around → Prop} {P : Program} {w : World} {K : PySem.W.Frag} {mg : Str → Option Value} {base : Heap} {k : Nat} (B : Blt3 mg) {f : Addr} {cdv : Value} {A : Around} {outer : List Env} {s : Shared} {H : Hp} {E : XK} {C : Ct} {px : XP}
    (hr : Room k (A.deeper (envOfC "table_lines" (defScope s_table_lines) s.heap.objs.size f cdv))) (hG : G (A.deeper (envOfC "table_lines" (defScope s_table_lines) s.heap.objs.size f cdv))) (hx : XO (cxOf (L2.CX P w) P w K mg base n_table_lines "table_lines" (defScope s_table_lines) f cdv A outer s H E) C px (L2.CX P w) E) :
    PSDs (cxOf (L2.CX P w) P w K mg base n_table_lines "table_lines" (defScope s_table_lines) f cdv A outer s H E) C (defBody s_table_lines) (t_table_lines px) :=
  have nd := sc_table_lines.nd
  (pssd_cons (psd_setF 1 nd (pf_lst (ds_cons (pd_fs (pd_len (by rfl) B.len (PO.of (pd_var (i := 0))))) ds_nil)))
    (pssd_cons (psd_for (.tup [2, 3]) own_of rfl (di_enumT (by rfl) B.enumerate (pd_var (i := 0))) (pg_tup rfl (pgs_cons (pg_name (i := 2) nd rfl (.inl rfl)) (pgs_cons (pg_name (i := 3) nd rfl (.inl rfl)) pgs_nil))) (pssd_one (psd_append 1 (pd_join (PO.of pd_str) (PO.of (PD.ofF (pf_compC (.nm 4) [("entry", 4)] rfl nd (DIC.of (di_tup (pd_slT (PO.of (pd_var (i := 3))) dp_none (dp_some (pd_add (PO.of (pd_var (i := 2))) (PO.of pd_int)))))) (blk_by (N := n_table_lines) (sc := defScope s_table_lines) (by decide +kernel)) (by decide) (fun s H A cl fp => (pg_name (i := 4) nd rfl (by first | exact .inl rfl | exact .inr rfl) (by first | exact .inr rfl | exact .inl rfl))) (fun s H A cl fp => dts_nil) (fun s H A cl fp => (pd_str1 (by rfl) B.str (PO.of (pd_var (i := 4))))))))))))
    (pssd_freeze 1 (pssd_one (psd_ret (pd_var (i := 1)))))))
theorem loop_lines {D : EndsD} {d0 : DL.D} : ∀ (ms : List (List Int)) (k : Nat) (acc : List Str) (o2 o3 o4 : Slot), (∀ r ∈ ms, Rw r) → acc.length + ms.length ≤ 1000 → (∀ o2 o3 o4, D.nx [.val d0, .own ((acc ++ linesF k ms).map PyData.str), o2, o3, o4]) →
    forD (.tup [2, 3]) (sAppend 1 (dM1 gJoin (tCD (.str " ")) (dComp (iT (dSl gSlT (tValD 3) oNone (oSome (dBi gAdd (tValD 2) (tCD (.int 1)))))) (.nm 4) tYesD (dUn gStr (tValD 4)) [4]))) D (enumF k (ms.map iTup)) [.val d0, .own (acc.map PyData.str), o2, o3, o4]
  | [], k, acc, o2, o3, o4, hr, hl, q => by
    have := q o2 o3 o4
    rw [show linesF k [] = [] from rfl, List.append_nil] at this
    exact this
  | r :: ms, k, acc, o2, o3, o4, hr, hl, q => by
    rw [List.length_cons] at hl
    refine ⟨rfl, ⟨_, rfl⟩, ?_⟩
    show compD _ _ _ _ (DL.cutD (r.map PyData.int) none (some ((k : Int) + 1))) [] _
    rw [cut_il]
    refine row_join2 (i := 4) ?_ ((hr r List.mem_cons_self).take _) ⟨by rw [List.length_map]; exact Nat.lt_of_lt_of_le (show acc.length < 1000 by omega) (by decide), ?_⟩
    · exact (show 4 < 5 by decide)
    have e : acc.map PyData.str ++ [.str (rowT (r.take (k + 1)))] = (acc ++ [rowT (r.take (k + 1))]).map PyData.str := by rw [List.map_append]; rfl
    show forD _ _ _ _ [_, .own (acc.map PyData.str ++ [.str (rowT (r.take (k + 1)))]), _, _, _]
    rw [e]
    refine loop_lines ms (k + 1) _ _ _ _ (fun x hx => hr x (List.mem_cons_of_mem _ hx)) (by rw [List.length_append]; show acc.length + 1 + ms.length ≤ 1000; omega) fun o2 o3 o4 => ?_
    have := q o2 o3 o4
    rw [show linesF k (r :: ms) = rowT (r.take (k + 1)) :: linesF (k + 1) ms from rfl] at this
    rw [List.append_assoc]
    exact this
theorem good_rw {m : List (List Int)} {n : Nat} (g : Good m n) : ∀ r ∈ m, Rw r := fun r hr => ⟨by rw [g.sq.row r hr]; exact g.hi, g.sz r hr⟩
theorem r_table_lines (px : XP) (as : List DL.Arg) (Q : D → Prop) (h : F_table_lines.run as Q px) : t_table_lines px { nx := fun _ => Q .none, rt := Q } (startD n_table_lines as) := by
  obtain ⟨m, n, rfl, g, h⟩ := h
  have hl := g.sq.len
  have hi := g.hi
  have el : (m.map iTup).length = m.length := List.length_map _
  refine ⟨by decide, sd_log (i := ((m.map iTup).length : Int)) (nat_sd (by omega)), tabH_fit (n := (m.map iTup).length) (by omega), by show 1 ≤ sizeLine; decide, ?_⟩
  show forD (.tup [2, 3]) _ _ (enumD (m.map iTup)) [.val (tab m), .own [.str (tabH ((m.map iTup).length : Int))], .un, .un, .un]
  rw [enumD_F, el]
  exact loop_lines m 0 [tabH (m.length : Int)] .un .un .un (good_rw g) (by show 1 + m.length ≤ 1000; omega) fun o2 o3 o4 => h
def F_text_of : FD := ⟨fun as P Z => ∃ d, as = [.dat d] ∧ ((∃ m n, d = tab m ∧ Good m n ∧ P (.str (txt m))) ∨ (BadT d ∧ Z CT "thing" d)), fun as P P' Z Z' k z ⟨d, e, h⟩ => ⟨d, e, h.imp (fun ⟨m, n, e, g, h⟩ => ⟨m, n, e, g, k _ h⟩) fun ⟨b, h⟩ => ⟨b, z _ _ _ h⟩⟩⟩
/-! text_of -/
abbrev s_text_of : Stmt := top 13
abbrev n_text_of : List Str := ["table"]
theorem sc_text_of : FnScope n_text_of ["table"] (defScope s_text_of) := ⟨rfl, rfl, rfl, by decide +kernel, rfl, by decide +kernel, by decide +kernel⟩
def t_text_of (px : XP) : TSD :=
  (sSeq (sDrop (tCallD F_need_table px (aCons (tValD 0) aNil)))
    (sRet (dM1 gJoin (tCD (.str "\n")) (tCallD F_table_lines px (aCons (tValD 0) aNil)))))
set_option maxHeartbeats 4000000 in
theorem d_text_of {G : Around → Prop} {P : Program} {w : World} {K : PySem.W.Frag} {mg : Str → Option Value} {base : Heap} {k : Nat} (B : Blt3 mg) {f : Addr} {cdv : Value} {A : Around} {outer : List Env} {s : Shared} {H : Hp} {E : XK} {C : Ct} {px : XP}
    (hr : Room k (A.deeper (envOfC "text_of" (defScope s_text_of) s.heap.objs.size f cdv))) (hG : G (A.deeper (envOfC "text_of" (defScope s_text_of) s.heap.objs.size f cdv))) (hx : XO (cxOf (L2.CX P w) P w K mg base n_text_of "text_of" (defScope s_text_of) f cdv A outer s H E) C px (L2.CX P w) E) (c_need_table : Cal G P w K mg base k "need_table" ["thing"] C.q.w F_need_table) (c_table_lines : Cal G P w K mg base k "table_lines" ["table"] C.q.w F_table_lines) :
    PSDs (cxOf (L2.CX P w) P w K mg base n_text_of "text_of" (defScope s_text_of) f cdv A outer s H E) C (defBody s_text_of) (t_text_of px) :=
  have nd := sc_text_of.nd
  (pssd_cons (psd_expr (pd_call c_need_table hr hG hx (by rfl) (da_cons (pd_var (i := 0)) da_nil)))
    (pssd_one (psd_ret (pd_join (PO.of pd_str) (PO.of (pd_call c_table_lines hr hG hx (by rfl) (da_cons (pd_var (i := 0)) da_nil)))))))
theorem txt_fit {m : List (List Int)} {n : Nat} (g : Good m n) : ((tabH (m.length : Int) :: linesF 0 m).map (·.length)).sum + (tabH (m.length : Int) :: linesF 0 m).length * nl.length ≤ 16777216 := Nat.le_trans (txt_sum g) (by decide)
theorem r_text_of (px : XP) (as : List DL.Arg) (Q : D → Prop) (h : F_text_of.run as Q px) : t_text_of px { nx := fun _ => Q .none, rt := Q } (startD n_text_of as) := by
  obtain ⟨d, rfl, h⟩ := h
  refine ⟨d, rfl, h.imp (fun ⟨m, n, e, g, h⟩ => ⟨m, n, e, g, ⟨_, rfl⟩, m, n, by rw [e], g, _, rfl, txt_fit g, h⟩) fun ⟨b, h⟩ => ⟨b, h⟩⟩
def F_Ltext : FD := ⟨fun as P _ => ∃ m n, as = [.dat (tab m)] ∧ Good m n ∧ P (.str (txt m)), fun as P P' Z Z' k _ ⟨m, n, e, h1, h⟩ => ⟨m, n, e, h1, k _ h⟩⟩
/-! _law_text -/
abbrev s_Ltext : Stmt := top 25
abbrev n_Ltext : List Str := ["_law_own", "_law_lines", "_law_x", "_law_at", "_law_row"]
theorem sc_Ltext : FnScope n_Ltext ["_law_own"] (defScope s_Ltext) := ⟨rfl, rfl, rfl, by decide +kernel, rfl, by decide +kernel, by decide +kernel⟩
def t_Ltext (px : XP) : TSD :=
  (sSeq (sSet 1 (dComp (iEnumT (tValD 0)) (.tup [3, 4]) tYesD (dM1 gJoin (tCD (.str " ")) (dComp (iT (dSl gSlT (tValD 4) oNone (oSome (dBi gAdd (tValD 3) (tCD (.int 1)))))) (.nm 2) tYesD (dUn gStr (tValD 2)) [2])) [3, 4]))
    (sRet (dM1 gJoin (tCD (.str "\n")) (dBi gCat (dLst (lCons (dBi gAdd (tCD (.str "table ")) (dUn gStr (dUn gLen (tValD 0)))) lNil)) (tValD 1)))))
set_option maxHeartbeats 4000000 in
theorem d_Ltext {G : Around → Prop} {P : Program} {w : World} {K : PySem.W.Frag} {mg : Str → Option Value} {base : Heap} {k : Nat} (B : Blt3 mg) {f : Addr} {cdv : Value} {A : Around} {outer : List Env} {s : Shared} {H : Hp} {E : XK} {C : Ct} {px : XP}
    (hr : Room k (A.deeper (envOfC "_law_text" (defScope s_Ltext) s.heap.objs.size f cdv))) (hG : G (A.deeper (envOfC "_law_text" (defScope s_Ltext) s.heap.objs.size f cdv))) (hx : XO (cxOf (L2.CX P w) P w K mg base n_Ltext "_law_text" (defScope s_Ltext) f cdv A outer s H E) C px (L2.CX P w) E) :
    PSDs (cxOf (L2.CX P w) P w K mg base n_Ltext "_law_text" (defScope s_Ltext) f cdv A outer s H E) C (defBody s_Ltext) (t_Ltext px) :=
  have nd := sc_Ltext.nd
  (pssd_cons (psd_setLcC 1 (.tup [3, 4]) [("_law_at", 3), ("_law_row", 4)] rfl nd (DIC.of (di_enumT (by rfl) B.enumerate (pd_var (i := 0)))) (blk_by (N := n_Ltext) (sc := defScope s_Ltext) (by decide +kernel)) (by decide) (fun s H A cl fp => (pg_tup rfl (pgs_cons (pg_name (i := 3) nd rfl (by first | exact .inl rfl | exact .inr rfl) (by first | exact .inr rfl | exact .inl rfl)) (pgs_cons (pg_name (i := 4) nd rfl (by first | exact .inl rfl | exact .inr rfl) (by first | exact .inr rfl | exact .inl rfl)) pgs_nil)))) (fun s H A cl fp => dts_nil) (fun s H A cl fp => (pd_join (PO.of pd_str) (PO.of (PD.ofF (pf_compC (.nm 2) [("_law_x", 2)] rfl nd (DIC.of (di_tup (pd_slT (PO.of (pd_var (i := 4))) dp_none (dp_some (pd_add (PO.of (pd_var (i := 3))) (PO.of pd_int)))))) (blk_by (by kernel_rfl)) (by decide) (fun s H A cl fp => (pg_name (i := 2) nd rfl (by first | exact .inl rfl | exact .inr rfl) (by first | exact .inr rfl | exact .inl rfl))) (fun s H A cl fp => dts_nil) (fun s H A cl fp => (pd_str1 (by rfl) B.str (PO.of (pd_var (i := 2)))))))))))
    (pssd_one (psd_ret (pd_join (PO.of pd_str) (PO.of (PD.ofF (pf_cat (PO.of (PD.ofF (pf_lst (ds_cons (pd_add (PO.of pd_str) (PO.of (pd_str1 (by rfl) B.str (PO.of (pd_len (by rfl) B.len (PO.of (pd_var (i := 0)))))))) ds_nil)))) (PO.of (pd_var (i := 1))))))))))
theorem comp_lines {o0 o1 o2 : Slot} {P : D → Prop} : ∀ (ms : List (List Int)) (k : Nat) (acc : List Str), (∀ r ∈ ms, Rw r) → acc.length + ms.length ≤ 1000 → P (.list ((acc ++ linesF k ms).map PyData.str)) →
    compD (.tup [3, 4]) tYesD (dM1 gJoin (tCD (.str " ")) (dComp (iT (dSl gSlT (tValD 4) oNone (oSome (dBi gAdd (tValD 3) (tCD (.int 1)))))) (.nm 2) tYesD (dUn gStr (tValD 2)) [2])) [o0, o1, o2, .un, .un] (enumF k (ms.map iTup)) (acc.map PyData.str) P
  | [], k, acc, hr, hl, q => by
    rw [show linesF k [] = [] from rfl, List.append_nil] at q
    exact q
  | r :: ms, k, acc, hr, hl, q => by
    rw [List.length_cons] at hl
    refine ⟨rfl, ⟨_, rfl⟩, ?_⟩
    show compD _ _ _ _ (DL.cutD (r.map PyData.int) none (some ((k : Int) + 1))) [] _
    rw [cut_il]
    refine row_join2 (i := 2) ?_ ((hr r List.mem_cons_self).take _) ⟨by rw [List.length_map]; exact Nat.lt_of_lt_of_le (show acc.length < 1000 by omega) (by decide), ?_⟩
    · exact (show 2 < 5 by decide)
    have e : acc.map PyData.str ++ [.str (rowT (r.take (k + 1)))] = (acc ++ [rowT (r.take (k + 1))]).map PyData.str := by rw [List.map_append]; rfl
    rw [e]
    refine comp_lines ms (k + 1) _ (fun x hx => hr x (List.mem_cons_of_mem _ hx)) (by rw [List.length_append]; show acc.length + 1 + ms.length ≤ 1000; omega) ?_
    rw [List.append_assoc]
    exact q
theorem r_Ltext (px : XP) (as : List DL.Arg) (Q : D → Prop) (h : F_Ltext.run as Q px) : t_Ltext px { nx := fun _ => Q .none, rt := Q } (startD n_Ltext as) := by
  obtain ⟨m, n, rfl, g, h⟩ := h
  have hl := g.sq.len
  have hi := g.hi
  show compD (.tup [3, 4]) _ _ _ (enumD (m.map iTup)) [] _
  rw [enumD_F]
  refine comp_lines m 0 [] (good_rw g) (by show 0 + m.length ≤ 1000; omega) ⟨⟨_, rfl⟩, ?_⟩
  have el : (m.map iTup).length = m.length := List.length_map _
  refine ⟨sd_log (i := ((m.map iTup).length : Int)) (nat_sd (by omega)), ?_, by show 1 ≤ sizeLine; decide, ?_, tabH (m.length : Int) :: linesF 0 m, by rw [← el]; rfl, txt_fit g, h⟩
  · have := tabH_fit (n := (m.map iTup).length) (by omega)
    rw [strLen_append] at this
    exact this
  · refine s12 ?_
    show 1 + ((linesF 0 m).map PyData.str).length ≤ 1000
    rw [List.length_map, linesF_len]
    omega
/-! ### _law_is_long -/
def F_Lis_long : FD := ⟨fun as P _ => ∃ z : Str, as = [.dat (.str z)] ∧ P (.bool (long z)), fun as P P' Z Z' k _ ⟨z, e, h⟩ => ⟨z, e, k _ h⟩⟩
/-! _law_is_long -/
abbrev s_Lis_long : Stmt := top 28
abbrev n_Lis_long : List Str := ["_law_text_here", "_law_many", "_law_sign"]
theorem sc_Lis_long : FnScope n_Lis_long ["_law_text_here"] (defScope s_Lis_long) := ⟨rfl, rfl, rfl, by decide +kernel, rfl, by decide +kernel, by decide +kernel⟩
def t_Lis_long (px : XP) : TSD :=
  (sSeq (sSet 1 (tCD (.int 0)))
    (sSeq (sFor (iS (tValD 0)) (.nm 2) (sSeq (sSet 1 (tIfD (tTestD (dBi (gInS false) (tValD 2) (tCD (.str "0123456789")))) (dBi gAdd (tValD 1) (tCD (.int 1))) (tCD (.int 0))))
    (sIf (tTestD (dBi gGt (tValD 1) (tCD (.int 20)))) (sRet (tCD (.bool true))) sNext)))
    (sRet (tCD (.bool false)))))
set_option maxHeartbeats 4000000 in
theorem d_Lis_long {G : Around → Prop} {P : Program} {w : World} {K : PySem.W.Frag} {mg : Str → Option Value} {base : Heap} {k : Nat} (B : Blt3 mg) {f : Addr} {cdv : Value} {A : Around} {outer : List Env} {s : Shared} {H : Hp} {E : XK} {C : Ct} {px : XP}
    (hr : Room k (A.deeper (envOfC "_law_is_long" (defScope s_Lis_long) s.heap.objs.size f cdv))) (hG : G (A.deeper (envOfC "_law_is_long" (defScope s_Lis_long) s.heap.objs.size f cdv))) (hx : XO (cxOf (L2.CX P w) P w K mg base n_Lis_long "_law_is_long" (defScope s_Lis_long) f cdv A outer s H E) C px (L2.CX P w) E) :
    PSDs (cxOf (L2.CX P w) P w K mg base n_Lis_long "_law_is_long" (defScope s_Lis_long) f cdv A outer s H E) C (defBody s_Lis_long) (t_Lis_long px) :=
  have nd := sc_Lis_long.nd
  (pssd_cons (psd_set 1 nd pd_int)
    (pssd_cons (psd_for (.nm 2) own_of rfl (di_str (pd_var (i := 0))) (pg_name (i := 2) nd rfl (.inl rfl)) (pssd_cons (psd_set 1 nd (pd_ifE (dt_inS (PO.of (pd_var (i := 2))) (PO.of pd_str)) (pd_add (PO.of (pd_var (i := 1))) (PO.of pd_int)) pd_int))
    (pssd_one (psd_if (dt_gt (PO.of (pd_var (i := 1))) (PO.of pd_int)) (pssd_one (psd_ret pd_bl)) pssd_nil))))
    (pssd_one (psd_ret pd_bl))))
theorem long_step {E : EndsD} {x y : Slot} {m2 : Int} (h1 : 20 < m2 → E.rt (.bool true)) (h2 : ¬ 20 < m2 → E.nx [x, .val (.int m2), y]) : sIf (tTestD (dBi gGt (tValD 1) (tCD (.int 20)))) (sRet (tCD (.bool true))) sNext E [x, .val (.int m2), y] :=
  ite_t (b := decide (m2 > 20)) (fun e => h1 (of_decide_eq_true e)) (fun e => h2 (of_decide_eq_false e))
theorem loop_long {D : EndsD} {z : Str} : ∀ (cs : List Nat) (m : Nat) (o : Slot), (if lngF m cs = true then D.rt (.bool true) else ∀ m' o, D.nx [.val (.str z), .val (.int m'), o]) →
    forD (.nm 2) (sSeq (sSet 1 (tIfD (tTestD (dBi (gInS false) (tValD 2) (tCD (.str "0123456789")))) (dBi gAdd (tValD 1) (tCD (.int 1))) (tCD (.int 0))))
      (sIf (tTestD (dBi gGt (tValD 1) (tCD (.int 20)))) (sRet (tCD (.bool true))) sNext)) D (cs.map fun c => .str ⟨#[c]⟩) [.val (.str z), .val (.int (m : Int)), o]
  | [], m, o, h => h _ _
  | c :: cs, m, o, h => by
    refine ⟨c, rfl, ?_⟩
    unfold lngF at h
    refine ite_t (b := decide (c ∈ (fig : Str).cps.toList)) (fun e => ?_) (fun e => ?_)
    · have e3 : (if isD c = true then m + 1 else 0) = m + 1 := if_pos e
      rw [e3] at h
      refine long_step (m2 := (m : Int) + 1) (fun e => ?_) (fun e => ?_)
      · rw [if_pos (show 20 < m + 1 by omega), if_pos rfl] at h
        exact h
      · rw [if_neg (show ¬ 20 < m + 1 by omega)] at h
        exact loop_long cs (m + 1) _ h
    · have e3 : (if isD c = true then m + 1 else 0) = 0 := if_neg (Bool.eq_false_iff.mp (show isD c = false from e))
      rw [e3] at h
      refine long_step (m2 := 0) (fun e => absurd e (by decide)) (fun e => ?_)
      rw [if_neg (show ¬ 20 < 0 by omega)] at h
      exact loop_long cs 0 _ h
theorem r_Lis_long (px : XP) (as : List DL.Arg) (Q : D → Prop) (h : F_Lis_long.run as Q px) : t_Lis_long px { nx := fun _ => Q .none, rt := Q } (startD n_Lis_long as) := by
  obtain ⟨z, rfl, h⟩ := h
  refine loop_long (tl z) 0 _ ?_
  refine ite_t (b := lngF 0 (tl z)) (fun e => ?_) (fun e => ?_)
  · unfold long at h
    rw [e] at h
    exact h
  · unfold long at h
    rw [e] at h
    exact fun _ _ => h
end Z

namespace Z
open PySem PySem.Spec PyProof.Rows L2 DL TL
/-! ### _law_read -/
def resD (s : List (List Int) ⊕ Nat) : D := match s with
  | .inl rs => .tuple [.str "told", tab (symT rs)]
  | .inr e => .tuple [.str "text", .int (e : Int)]
def F_Lread : FD := ⟨fun as P _ => ∃ d, as = [.dat d] ∧ ((isa d "str" = false ∧ P (.tuple [.str "text", .int 0])) ∨ ∃ z, d = .str z ∧ z.length ≤ 1000000 ∧ Okz z ∧ P (resD (readP z))), fun as P P' Z Z' k _ ⟨d, e, h⟩ => ⟨d, e, h.imp (fun ⟨h1, h2⟩ => ⟨h1, k _ h2⟩) fun ⟨t, e, h1, h2, h3⟩ => ⟨t, e, h1, h2, k _ h3⟩⟩⟩
/-! _law_read -/
abbrev s_Lread : Stmt := top 29
abbrev n_Lread : List Str := ["_law_text_here", "_law_lines", "_law_rows", "_law_n", "_law_line", "_law_words", "_law_word", "_law_j", "_law_i"]
theorem sc_Lread : FnScope n_Lread ["_law_text_here"] (defScope s_Lread) := ⟨rfl, rfl, rfl, by decide +kernel, rfl, by decide +kernel, by decide +kernel⟩
def t_Lread (px : XP) : TSD :=
  (sSeq (sIf (tNotD (tTestD (dUn (gIsi "str") (tValD 0)))) (sRet (dTup (lCons (tCD (.str "text")) (lCons (tCD (.int 0)) lNil)))) sNext)
    (sSeq (sPar [1, 2] (mVal (dM1 gSplit (tValD 0) (tCD (.str "\n"))) (mOwn (dLst lNil) mNil)))
    (sSeq (sFor (iR2 (tCD (.int 1)) (tCD (.int 13))) (.nm 3) (sIf (tTestD (dBi (gEqS false) (dBi gIx (tValD 1) (tCD (.int 0))) (dBi gAdd (tCD (.str "table ")) (dUn gStr (tValD 3))))) (sSeq (sFor (iL (dSl gSlL (tValD 1) (oSome (tCD (.int 1))) (oSome (dBi gAdd (tValD 3) (tCD (.int 1)))))) (.nm 4) (sSeq (sSet 5 (dM1 gSplit (tValD 4) (tCD (.str " "))))
    (sSeq (sIf (tOrD (tTestD (dBi (gEqS true) (dUn gLen (tValD 5)) (dBi gAdd (dUn gLen (tOwnD 2)) (tCD (.int 1))))) (tTestD (dEqNil true (dComp (iL (tValD 5)) (.nm 6) (tNotD (tTestD (tCallD F_Lis_number never (aCons (tValD 6) aNil)))) (tValD 6) [6])))) (sRet (dTup (lCons (tCD (.str "text")) (lCons (dBi gAdd (dUn gLen (tOwnD 2)) (tCD (.int 2))) lNil)))) sNext)
    (sAppend 2 (dComp (iL (tValD 5)) (.nm 6) tYesD (dUn gIntS (tValD 6)) [6])))))
    (sSeq (sIf (tTestD (dBi (gEqS true) (dUn gLen (tValD 1)) (dBi gAdd (tValD 3) (tCD (.int 1))))) (sRet (dTup (lCons (tCD (.str "text")) (lCons (dBi gAdd (dBi gMin2 (dUn gLen (tValD 1)) (dBi gAdd (tValD 3) (tCD (.int 1)))) (tCD (.int 1))) lNil)))) sNext)
    (sRet (dTup (lCons (tCD (.str "told")) (lCons (dUn gTuple (dComp (iR1 (tValD 3)) (.nm 8) tYesD (dUn gTuple (dComp (iR1 (tValD 3)) (.nm 7) tYesD (dBi gIx (dBi gIx (tOwnD 2) (dBi gMax2 (tValD 8) (tValD 7))) (dBi gMin2 (tValD 8) (tValD 7))) [7])) [8])) lNil)))))) sNext))
    (sRet (dTup (lCons (tCD (.str "text")) (lCons (tCD (.int 1)) lNil)))))))
set_option maxHeartbeats 4000000 in
theorem d_Lread {G : Around → Prop} {P : Program} {w : World} {K : PySem.W.Frag} {mg : Str → Option Value} {base : Heap} {k : Nat} (B : Blt3 mg) {f : Addr} {cdv : Value} {A : Around} {outer : List Env} {s : Shared} {H : Hp} {E : XK} {C : Ct} {px : XP}
    (hr : Room k (A.deeper (envOfC "_law_read" (defScope s_Lread) s.heap.objs.size f cdv))) (hG : G (A.deeper (envOfC "_law_read" (defScope s_Lread) s.heap.objs.size f cdv))) (hx : XO (cxOf (L2.CX P w) P w K mg base n_Lread "_law_read" (defScope s_Lread) f cdv A outer s H E) C px (L2.CX P w) E) (c_Lis_number : Cal G P w K mg base k "_law_is_number" ["_law_word"] C.q.w F_Lis_number) :
    PSDs (cxOf (L2.CX P w) P w K mg base n_Lread "_law_read" (defScope s_Lread) f cdv A outer s H E) C (defBody s_Lread) (t_Lread px) :=
  have nd := sc_Lread.nd
  (pssd_cons (psd_if (dt_not (dt_val (pd_isi "str" kits_str (by rfl) B.isinstance (by rfl) B.str (by decide +kernel) (PO.of (pd_var (i := 0)))))) (pssd_one (psd_ret (pd_tup (ds_cons pd_str (ds_cons pd_int ds_nil))))) pssd_nil)
    (pssd_cons (psd_asgM [1, 2] (dm_val (PD.ofF (pf_split (PO.of (pd_var (i := 0))) (PO.of pd_str))) (dm_own (pf_lst ds_nil) dm_nil)) (pg_tup rfl (pgs_cons (pg_name (i := 1) nd rfl (.inl rfl)) (pgs_cons (pg_name (i := 2) nd rfl (.inr rfl)) pgs_nil))))
    (pssd_cons (psd_for (.nm 3) own_of rfl (di_range2 (by rfl) B.range pd_int pd_int) (pg_name (i := 3) nd rfl (.inr rfl)) (pssd_one (psd_if (dt_eqS (PO.of (pd_ix (PO.of (pd_var (i := 1))) (PO.of pd_int))) (PO.of (pd_add (PO.of pd_str) (PO.of (pd_str1 (by rfl) B.str (PO.of (pd_var (i := 3)))))))) (pssd_cons (psd_for (.nm 4) own_of rfl (di_list (PD.ofF (pf_slL (PO.of (pd_var (i := 1))) (dp_some pd_int) (dp_some (pd_add (PO.of (pd_var (i := 3))) (PO.of pd_int)))))) (pg_name (i := 4) nd rfl (.inl rfl)) (pssd_cons (psd_set 5 nd (PD.ofF (pf_split (PO.of (pd_var (i := 4))) (PO.of pd_str))))
    (pssd_cons (psd_if (dt_bool (dw_or (dt_neS (PO.of (pd_len (by rfl) B.len (PO.of (pd_var (i := 5))))) (PO.of (pd_add (PO.of (pd_len (by rfl) B.len (po_own (i := 2)))) (PO.of pd_int)))) (dw_or1 (dt_neNil (room_u hr) (PO.of (PD.ofF (pf_compC (.nm 6) [("_law_word", 6)] rfl nd (DIC.of (di_list (pd_var (i := 5)))) (blk_by (N := n_Lread) (sc := defScope s_Lread) (by decide +kernel)) (by decide) (fun s H A cl fp => (pg_name (i := 6) nd rfl (by first | exact .inl rfl | exact .inr rfl) (by first | exact .inr rfl | exact .inl rfl))) (fun s H A cl fp => (dts_one (dt_not (dt_val (pd_call c_Lis_number hr hG xo_none (by rfl) (da_cons (pd_var (i := 6)) da_nil)))))) (fun s H A cl fp => (pd_var (i := 6)))))))))) (pssd_one (psd_ret (pd_tup (ds_cons pd_str (ds_cons (pd_add (PO.of (pd_len (by rfl) B.len (po_own (i := 2)))) (PO.of pd_int)) ds_nil))))) pssd_nil)
    (pssd_one (psd_append 2 (PD.ofF (pf_compC (.nm 6) [("_law_word", 6)] rfl nd (DIC.of (di_list (pd_var (i := 5)))) (blk_by (N := n_Lread) (sc := defScope s_Lread) (by decide +kernel)) (by decide) (fun s H A cl fp => (pg_name (i := 6) nd rfl (by first | exact .inl rfl | exact .inr rfl) (by first | exact .inr rfl | exact .inl rfl))) (fun s H A cl fp => dts_nil) (fun s H A cl fp => (pd_intS (by rfl) B.int (PO.of (pd_var (i := 6))))))))))))
    (pssd_cons (psd_if (dt_neS (PO.of (pd_len (by rfl) B.len (PO.of (pd_var (i := 1))))) (PO.of (pd_add (PO.of (pd_var (i := 3))) (PO.of pd_int)))) (pssd_one (psd_ret (pd_tup (ds_cons pd_str (ds_cons (pd_add (PO.of (pd_min2 (by rfl) B.min (PO.of (pd_len (by rfl) B.len (PO.of (pd_var (i := 1))))) (PO.of (pd_add (PO.of (pd_var (i := 3))) (PO.of pd_int))))) (PO.of pd_int)) ds_nil))))) pssd_nil)
    (pssd_one (psd_ret (pd_tup (ds_cons pd_str (ds_cons (pd_tuple (by rfl) B.tuple (PO.of (PD.ofF (pf_compC (.nm 8) [("_law_i", 8)] rfl nd (DIC.of (di_range1 (by rfl) B.range (pd_var (i := 3)))) (blk_by (N := n_Lread) (sc := defScope s_Lread) (by decide +kernel)) (by decide) (fun s H A cl fp => (pg_name (i := 8) nd rfl (by first | exact .inl rfl | exact .inr rfl) (by first | exact .inr rfl | exact .inl rfl))) (fun s H A cl fp => dts_nil) (fun s H A cl fp => (pd_tuple (by rfl) B.tuple (PO.of (PD.ofF (pf_compC (.nm 7) [("_law_j", 7)] rfl nd (DIC.of (di_range1 (by rfl) B.range (pd_var (i := 3)))) (blk_by (by kernel_rfl)) (by decide) (fun s H A cl fp => (pg_name (i := 7) nd rfl (by first | exact .inl rfl | exact .inr rfl) (by first | exact .inr rfl | exact .inl rfl))) (fun s H A cl fp => dts_nil) (fun s H A cl fp => (pd_ix (PO.of (pd_ix (po_own (i := 2)) (PO.of (pd_max2 (by rfl) B.max (PO.of (pd_var (i := 8))) (PO.of (pd_var (i := 7))))))) (PO.of (pd_min2 (by rfl) B.min (PO.of (pd_var (i := 8))) (PO.of (pd_var (i := 7)))))))))))))))) ds_nil))))))) pssd_nil)))
    (pssd_one (psd_ret (pd_tup (ds_cons pd_str (ds_cons pd_int ds_nil))))))))
abbrev lrRow (px : XP) : TSD := (sSeq (sSet 5 (dM1 gSplit (tValD 4) (tCD (.str " "))))
    (sSeq (sIf (tOrD (tTestD (dBi (gEqS true) (dUn gLen (tValD 5)) (dBi gAdd (dUn gLen (tOwnD 2)) (tCD (.int 1))))) (tTestD (dEqNil true (dComp (iL (tValD 5)) (.nm 6) (tNotD (tTestD (tCallD F_Lis_number never (aCons (tValD 6) aNil)))) (tValD 6) [6])))) (sRet (dTup (lCons (tCD (.str "text")) (lCons (dBi gAdd (dUn gLen (tOwnD 2)) (tCD (.int 2))) lNil)))) sNext)
    (sAppend 2 (dComp (iL (tValD 5)) (.nm 6) tYesD (dUn gIntS (tValD 6)) [6]))))
abbrev lrEnd (px : XP) : TSD := (sSeq (sIf (tTestD (dBi (gEqS true) (dUn gLen (tValD 1)) (dBi gAdd (tValD 3) (tCD (.int 1))))) (sRet (dTup (lCons (tCD (.str "text")) (lCons (dBi gAdd (dBi gMin2 (dUn gLen (tValD 1)) (dBi gAdd (tValD 3) (tCD (.int 1)))) (tCD (.int 1))) lNil)))) sNext)
    (sRet (dTup (lCons (tCD (.str "told")) (lCons (dUn gTuple (dComp (iR1 (tValD 3)) (.nm 8) tYesD (dUn gTuple (dComp (iR1 (tValD 3)) (.nm 7) tYesD (dBi gIx (dBi gIx (tOwnD 2) (dBi gMax2 (tValD 8) (tValD 7))) (dBi gMin2 (tValD 8) (tValD 7))) [7])) [8])) lNil)))))
abbrev lrBody (px : XP) : TSD := (sSeq (sFor (iL (dSl gSlL (tValD 1) (oSome (tCD (.int 1))) (oSome (dBi gAdd (tValD 3) (tCD (.int 1)))))) (.nm 4) (lrRow px)) (lrEnd px))
theorem bnot {b : Bool} (h : (!b) = false) : b = true := by cases b with | true => rfl | false => cases h
theorem rng_mem {n : Nat} {d : D} (h : d ∈ rangeD 0 1 n) : ∃ j : Nat, j < n ∧ d = .int (j : Int) := by
  unfold rangeD at h
  obtain ⟨j, hj, rfl⟩ := List.mem_map.mp h
  exact ⟨j, List.mem_range.mp hj, by simp⟩
theorem rng_fm {n : Nat} {f : D → Option D} {g : Nat → D} (h : ∀ i, i < n → f (.int (i : Int)) = some (g i)) : (rangeD 0 1 n).filterMap f = (List.range n).map g := by
  unfold rangeD
  rw [List.filterMap_map]
  refine fm_some _ fun i hi => ?_
  show f (.int (0 + (i : Int) * 1)) = _
  rw [Int.zero_add, Int.mul_one]
  exact h i (List.mem_range.mp hi)
theorem rng_len (n : Nat) : (rangeD 0 1 n).length = n := by unfold rangeD; rw [List.length_map, List.length_range]
def fSym (rs : List (List Int)) (i : Nat) (x : D) : Option D := match x with
  | .int j => some (.int (at0 (rs.getD (max i j.toNat) []) (min i j.toNat)))
  | _ => none
def fRow (rs : List (List Int)) (x : D) : Option D := match x with
  | .int i => some (iTup (symRow rs i.toNat))
  | _ => none
theorem max_nat (i j : Nat) : (if (j : Int) > (i : Int) then (j : Int) else (i : Int)) = ((max i j : Nat) : Int) := by
  split <;> omega
theorem min_nat (i j : Nat) : (if (j : Int) < (i : Int) then (j : Int) else (i : Int)) = ((min i j : Nat) : Int) := by
  split <;> omega
theorem comp_sym {P : D → Prop} {rs : List (List Int)} (tr : Tri rs) {o0 o1 o4 o5 o6 : Slot} {i : Nat} (hi : i < rs.length) (h : P (.list ((symRow rs i).map PyData.int))) :
    compD (.nm 7) tYesD (dBi gIx (dBi gIx (tOwnD 2) (dBi gMax2 (tValD 8) (tValD 7))) (dBi gMin2 (tValD 8) (tValD 7))) [o0, o1, .own (rs.map ilist), .val (.int (rs.length : Int)), o4, o5, o6, .un, .val (.int (i : Int))] (rangeD 0 1 rs.length) [] P := by
  have hh := tr.hi
  refine comp_pure (fSym rs i) _ [] (fun x hx R q => ?_) (by rw [rng_len]; exact s12 (by show 0 + rs.length ≤ 1000; omega)) ?_
  · obtain ⟨j, hj, rfl⟩ := rng_mem hx
    have hm : max i j < rs.length := by omega
    have hl := tr.row _ hm
    have e1 : L2.atI (rs.map ilist) (if (j : Int) > (i : Int) then (j : Int) else (i : Int)) = some (ilist (rs.getD (max i j) [])) := by
      rw [max_nat]
      refine L2.atI_nat ?_
      rw [List.getElem?_map, List.getElem?_eq_getElem hm]
      simp [hm]
    have e2 : L2.atI ((rs.getD (max i j) []).map PyData.int) (if (j : Int) < (i : Int) then (j : Int) else (i : Int)) = some (.int (at0 (rs.getD (max i j) []) (min i j))) := by
      rw [min_nat]
      exact at_il (by omega)
    refine ⟨_, e1, _, e2, ?_⟩
    exact q
  · have e : (rangeD 0 1 rs.length).filterMap (fSym rs i) = (symRow rs i).map PyData.int := by
      unfold symRow
      rw [List.map_map]
      exact rng_fm fun j hj => rfl
    rw [List.nil_append, e]
    exact h
theorem lr_end {px : XP} {D : EndsD} {z : Str} {L : List Str} {n : Nat} (hn : n ≤ 12) {acc : List (List Int)} {o4 o5 o6 o7 o8 : Slot}
    (h1 : L.length = n + 1 → (acc.length = n ∧ Tri acc) ∧ D.rt (resD (.inl acc))) (h2 : L.length ≠ n + 1 → D.rt (.tuple [.str "text", .int ((min L.length (n + 1) + 1 : Nat) : Int)])) :
    lrEnd px D [.val (.str z), .val (.list (L.map .str)), .own (acc.map ilist), .val (.int (n : Int)), o4, o5, o6, o7, o8] := by
  have s2 : 2 ≤ sizeLine := by decide
  refine ite_t (b := !decide (((L.map PyData.str).length : Int) = (n : Int) + 1)) (fun e => ?_) (fun e => ?_)
  · have hne : L.length ≠ n + 1 := fun z => by
      rw [decide_eq_true (by rw [List.length_map]; omega)] at e
      cases e
    refine ⟨s2, ?_⟩
    have := h2 hne
    have e2 : ((min L.length (n + 1) + 1 : Nat) : Int) = (if (n : Int) + 1 < ((L.map PyData.str).length : Int) then (n : Int) + 1 else ((L.map PyData.str).length : Int)) + 1 := by
      rw [List.length_map]
      split <;> omega
    rw [e2] at this
    exact this
  · have he : L.length = n + 1 := by
      have := of_decide_eq_true (bnot e)
      rw [List.length_map] at this
      omega
    obtain ⟨⟨k, tr⟩, q⟩ := h1 he
    subst k
    refine ⟨⟨by omega, by omega⟩, ?_⟩
    show compD _ _ _ _ (rangeD 0 1 (((acc.length : Nat) : Int)).toNat) [] _
    rw [Int.toNat_natCast]
    refine comp_pure (fRow acc) _ [] (fun x hx R q => ?_) (by rw [rng_len]; exact s12 (by show 0 + acc.length ≤ 1000; omega)) ?_
    · obtain ⟨j, hj, rfl⟩ := rng_mem hx
      refine ⟨⟨by omega, by omega⟩, ?_⟩
      show compD _ _ _ _ (rangeD 0 1 (((acc.length : Nat) : Int)).toNat) [] _
      rw [Int.toNat_natCast]
      exact comp_sym tr hj q
    · have e3 : (rangeD 0 1 acc.length).filterMap (fRow acc) = (List.range acc.length).map fun i => iTup (symRow acc i) := rng_fm fun j hj => rfl
      rw [List.nil_append, e3]
      refine ⟨s2, ?_⟩
      have e4 : tab (symT acc) = .tuple ((List.range acc.length).map fun i => iTup (symRow acc i)) := by
        show PyData.tuple ((symT acc).map iTup) = _
        rw [symT_eq, List.map_map]
        rfl
      have q : D.rt (.tuple [.str "told", tab (symT acc)]) := q
      rw [e4] at q
      exact q
def fBad (x : D) : Option D := match x with
  | .str w => if numB w = true then none else some (.str w)
  | _ => none
def fInt (x : D) : Option D := match x with
  | .str w => some (.int (val w))
  | _ => none
theorem bad_all (ws : List Str) : ((ws.map PyData.str).filterMap fBad).isEmpty = ws.all numB := by
  induction ws with
  | nil => rfl
  | cons w ws ih =>
    rw [List.map_cons, List.all_cons]
    have e : fBad (.str w) = if numB w = true then none else some (.str w) := rfl
    cases z : numB w with
    | true => rw [z, if_pos rfl] at e; rw [List.filterMap_cons_none e, ih, Bool.true_and]
    | false => rw [z, if_neg Bool.false_ne_true] at e; rw [List.filterMap_cons_some e]; rfl
theorem loop_rows {px : XP} {R : D → Prop} {D : EndsD} {z : Str} {L : List Str} {n : Nat} (hn : n ≤ 12) {D2 : EndsD} (hD : D.nx = lrEnd px D2) (h2 : D2.rt = R) (hrt : D.rt = R) :
    ∀ (rest : List Str) (c k : Nat) (acc : List (List Int)) (o4 o5 o6 o7 o8 : Slot), L.length = 1 + k + rest.length → acc.length = k → k + c = n → (∀ l ∈ rest, LFew l ∧ l.length ≤ 1000000) → (∀ rs, rowsA rest acc c = .inl rs → Tri rs) → R (resD (rowsA rest acc c)) →
      forD (.nm 4) (lrRow px) D ((rest.take c).map PyData.str) [.val (.str z), .val (.list (L.map .str)), .own (acc.map ilist), .val (.int (n : Int)), o4, o5, o6, o7, o8]
  | [], 0, k, acc, o4, o5, o6, o7, o8, hl, ha, hk, hf, tr, h => by
    rw [List.length_nil] at hl
    show D.nx _
    rw [hD]
    subst h2
    exact lr_end hn (fun _ => ⟨⟨by omega, tr _ rfl⟩, h⟩) (fun z => absurd (by omega) z)
  | l :: rest, 0, k, acc, o4, o5, o6, o7, o8, hl, ha, hk, hf, tr, h => by
    rw [List.length_cons] at hl
    show D.nx _
    rw [hD]
    subst h2
    refine lr_end hn (fun z => absurd z (by omega)) (fun _ => ?_)
    have h : D2.rt (.tuple [.str "text", .int ((acc.length + 2 : Nat) : Int)]) := h
    rw [show min L.length (n + 1) + 1 = acc.length + 2 by omega]
    exact h
  | [], c + 1, k, acc, o4, o5, o6, o7, o8, hl, ha, hk, hf, tr, h => by
    rw [List.length_nil] at hl
    show D.nx _
    rw [hD]
    subst h2
    refine lr_end hn (fun z => absurd z (by omega)) (fun _ => ?_)
    have h : D2.rt (.tuple [.str "text", .int ((acc.length + 2 : Nat) : Int)]) := h
    rw [show min L.length (n + 1) + 1 = acc.length + 2 by omega]
    exact h
  | l :: rest, c + 1, k, acc, o4, o5, o6, o7, o8, hl, ha, hk, hf, tr, h => by
    rw [List.length_cons] at hl
    obtain ⟨f1, f2⟩ := hf l List.mem_cons_self
    have hp := split_le l sp
    refine ⟨⟨l, rfl⟩, by decide, s6 (by omega), ?_⟩
    unfold rowsA at h tr
    rw [ha] at h tr
    have s2 : 2 ≤ sizeLine := by decide
    have hfit : 0 + ((Txt.split l sp).map PyData.str).length ≤ sizeLine := by rw [List.length_map, Nat.zero_add]; exact s6 (by omega)
    have bad : rowOf l (k + 1) = none → D.rt (.tuple [.str "text", .int (((acc.map ilist).length : Int) + 2)]) := fun e => by
      rw [e] at h
      rw [hrt, List.length_map, ha]
      exact h
    refine ite_t (b := !decide ((((Txt.split l sp).map PyData.str).length : Int) = ((acc.map ilist).length : Int) + 1)) (fun e => ⟨s2, bad ?_⟩) (fun e => ?_)
    · unfold rowOf
      refine if_neg fun y => ?_
      rw [decide_eq_true (by rw [List.length_map, List.length_map, y.1, ha]; omega)] at e
      cases e
    · have he := of_decide_eq_true (bnot e)
      rw [List.length_map, List.length_map, ha] at he
      have he : (Txt.split l sp).length = k + 1 := by omega
      refine comp_pure fBad _ [] (fun x hx R q => ?_) hfit ?_
      · obtain ⟨w, hw, rfl⟩ := List.mem_map.mp hx
        refine ⟨w, rfl, s6 (by have := part_short hw; omega), ?_⟩
        have q : R (if numB w = true then none else some (.str w)) := q
        cases e : numB w with
        | true => rw [e] at q; exact q
        | false => rw [e] at q; exact q
      · rw [List.nil_append]
        refine ite_t (b := !((((Txt.split l sp).map PyData.str).filterMap fBad).isEmpty)) (fun e2 => ⟨s2, bad ?_⟩) (fun e2 => ?_)
        · rw [bad_all] at e2
          unfold rowOf
          refine if_neg fun y => ?_
          rw [y.2] at e2
          cases e2
        · have e2 := bnot e2
          rw [bad_all] at e2
          have er : rowOf l (k + 1) = some ((Txt.split l sp).map val) := by unfold rowOf; exact if_pos ⟨he, e2⟩
          rw [er] at h tr
          refine comp_pure fInt _ [] (fun x hx R q => ?_) hfit ?_
          · obtain ⟨w, hw, rfl⟩ := List.mem_map.mp hx
            have kk := few_val (List.all_eq_true.mp e2 w hw) (f1 w hw)
            exact ⟨_, kk.rd, Nat.le_trans kk.len (by decide), q⟩
          · have e3 : ((Txt.split l sp).map PyData.str).filterMap fInt = ((Txt.split l sp).map val).map PyData.int := by
              rw [List.filterMap_map, List.map_map, ← List.filterMap_eq_map]
              rfl
            rw [List.nil_append, e3]
            refine ⟨by rw [List.length_map, ha]; exact Nat.lt_of_lt_of_le (show k < 12 by omega) (by decide), ?_⟩
            have e5 : acc.map ilist ++ [ilist ((Txt.split l sp).map val)] = (acc ++ [(Txt.split l sp).map val]).map ilist := by rw [List.map_append]; rfl
            show forD _ _ _ _ [_, _, .own (acc.map ilist ++ [ilist ((Txt.split l sp).map val)]), _, _, _, _, _, _]
            rw [e5]
            exact loop_rows hn hD h2 hrt rest c (k + 1) (acc ++ [(Txt.split l sp).map val]) _ _ _ _ _ (by omega) (by rw [List.length_append, ha]; rfl) (by omega) (fun x hx => hf x (List.mem_cons_of_mem _ hx)) tr h
theorem cut_mid (x : D) (l : List D) (n : Nat) : DL.cutD (x :: l) (some 1) (some ((n : Int) + 1)) = l.take n := by
  unfold DL.cutD
  rw [show (n : Int) + 1 = ((n + 1 : Nat) : Int) by omega, show (1 : Int) = ((1 : Nat) : Int) from rfl, HT.sIx_nat, HT.sIx_nat, List.length_cons, Nat.min_eq_left (show 1 ≤ l.length + 1 by omega)]
  show l.take _ = _
  rw [List.take_eq_take_iff]
  omega
theorem loop_heads {px : XP} {R : D → Prop} {D : EndsD} (hrt : D.rt = R) {z l : Str} {ls : List Str} (hf : (∀ x ∈ ls, LFew x) ∨ hdr l = none) (hlen : ∀ x ∈ ls, x.length ≤ 1000000) : ∀ (c t : Nat) (o3 o4 o5 o6 o7 o8 : Slot), 1 ≤ t → t + c = 13 → hdr l = hdrF l t c → (match hdrF l t c with
    | none => ∀ o3 o4 o5 o6 o7 o8, D.nx [.val (.str z), .val (.list ((l :: ls).map .str)), .own [], o3, o4, o5, o6, o7, o8]
    | some n => R (resD (rowsA ls [] n))) →
    forD (.nm 3) (sIf (tTestD (dBi (gEqS false) (dBi gIx (tValD 1) (tCD (.int 0))) (dBi gAdd (tCD (.str "table ")) (dUn gStr (tValD 3))))) (lrBody px) sNext) D (rangeD (t : Int) 1 c) [.val (.str z), .val (.list ((l :: ls).map .str)), .own [], o3, o4, o5, o6, o7, o8]
  | 0, t, o3, o4, o5, o6, o7, o8, t1, e, hh, h => h _ _ _ _ _ _
  | c + 1, t, o3, o4, o5, o6, o7, o8, t1, e, hh, h => by
    rw [rangeD_succ]
    have e1 : (t : Int) + 1 = ((t + 1 : Nat) : Int) := by omega
    have fit := tabH_fit (n := t) (by omega)
    rw [strLen_append] at fit
    refine ⟨.str l, L2.atI_nat (j := 0) rfl, sd_log (nat_sd (by omega)), fit, ?_⟩
    unfold hdrF at h hh
    refine ite_t (b := decide (l = tabH (t : Int))) (fun e2 => ?_) (fun e2 => ?_)
    · rw [if_pos (of_decide_eq_true e2)] at h hh
      have hf : ∀ x ∈ ls, LFew x := hf.resolve_right (fun y => by rw [y] at hh; cases hh)
      show forD (.nm 4) _ _ (DL.cutD (.str l :: ls.map PyData.str) (some 1) (some ((t : Int) + 1))) _
      rw [cut_mid, ← List.map_take]
      exact loop_rows (R := R) (L := l :: ls) (n := t) (px := px) (by omega) rfl (by exact hrt) (by exact hrt) ls t 0 [] _ _ _ _ _ (by rw [List.length_cons]; omega) rfl (by omega) (fun x hx => ⟨hf x hx, hlen x hx⟩) (fun rs er => (rowsA_tri t1 (by omega) er hf).2.1) h
    · rw [if_neg (of_decide_eq_false e2)] at h hh
      rw [e1]
      exact loop_heads hrt hf hlen c (t + 1) _ _ _ _ _ _ (by omega) (by omega) hh h
theorem r_Lread (px : XP) (as : List DL.Arg) (Q : D → Prop) (h : F_Lread.run as Q px) : t_Lread px { nx := fun _ => Q .none, rt := Q } (startD n_Lread as) := by
  obtain ⟨d, rfl, h⟩ := h
  have s2 : 2 ≤ sizeLine := by decide
  rcases h with ⟨h1, h⟩ | ⟨z, rfl, hz, ok, h⟩
  · exact ite_t (b := !isa d "str") (fun _ => ⟨s2, h⟩) (fun e => absurd e (by rw [h1]; decide))
  · refine ⟨⟨z, rfl⟩, by decide, s6 (by omega), ?_⟩
    have hlen : ∀ l ∈ Txt.split z nl, l.length ≤ 1000000 := fun l hl => by have := part_short hl; omega
    have hpos := split_pos z nl
    unfold readP at h
    unfold Okz Safe at ok
    generalize Txt.split z nl = L at *
    refine ⟨by decide, rfl, ⟨by decide, by decide, by decide, by decide⟩, ?_⟩
    cases L with
    | nil => exact absurd hpos (Nat.not_succ_le_zero _)
    | cons l ls =>
      have h : Q (resD (match hdr l with
        | none => .inr 1
        | some n => rowsA ls [] n)) := h
      show forD _ _ _ (rangeD ((1 : Nat) : Int) 1 12) _
      refine loop_heads (px := px) (R := Q) rfl ?_ (fun x hx => hlen x (List.mem_cons_of_mem _ hx)) 12 1 .un .un .un .un .un .un (Nat.le_refl _) rfl rfl ?_
      · rcases ok with ok | ⟨h', ls', e2, e3⟩
        · exact .inl fun x hx => ok x (List.mem_cons_of_mem _ hx)
        · cases e2
          exact .inr e3
      · have eh : hdr l = hdrF l 1 12 := rfl
        rw [eh] at h
        cases e : hdrF l 1 12 with
        | none => rw [e] at h; exact fun _ _ _ _ _ _ => ⟨s2, h⟩
        | some n => rw [e] at h; exact h
end Z

namespace Z
open PySem PySem.Spec PyProof.Rows L2 DL
/-! ### the law's own defs: what is drawn -/
abbrev F_Ldraw : FD := FdDraw
def F_Lpick : FD := ⟨fun as P _ => ∃ ds : List D, as = [.deck, .dat (.list ds)] ∧ 1 ≤ ds.length ∧ ds.length ≤ 100 ∧ ∀ d ∈ ds, P d, fun as P P' Z Z' k _ ⟨ds, e, h1, h2, h⟩ => ⟨ds, e, h1, h2, fun d hd => k _ (h d hd)⟩⟩
/-! _law_pick -/
abbrev s_Lpick : Stmt := top 22
abbrev n_Lpick : List Str := ["_law_deck_here", "_law_some"]
theorem sc_Lpick : FnScope n_Lpick ["_law_deck_here", "_law_some"] (defScope s_Lpick) := ⟨rfl, rfl, rfl, by decide +kernel, rfl, by decide +kernel, by decide +kernel⟩
def t_Lpick (px : XP) : TSD :=
  (sRet (dBi gIx (tValD 1) (tCallD F_Ldraw px (aSlot 0 (aCons (dUn gLen (tValD 1)) aNil)))))
set_option maxHeartbeats 4000000 in
theorem d_Lpick {G : Around → Prop} {P : Program} {w : World} {K : PySem.W.Frag} {mg : Str → Option Value} {base : Heap} {k : Nat} (B : Blt3 mg) {f : Addr} {cdv : Value} {A : Around} {outer : List Env} {s : Shared} {H : Hp} {E : XK} {C : Ct} {px : XP}
    (hr : Room k (A.deeper (envOfC "_law_pick" (defScope s_Lpick) s.heap.objs.size f cdv))) (hG : G (A.deeper (envOfC "_law_pick" (defScope s_Lpick) s.heap.objs.size f cdv))) (hx : XO (cxOf (L2.CX P w) P w K mg base n_Lpick "_law_pick" (defScope s_Lpick) f cdv A outer s H E) C px (L2.CX P w) E) (c_Ldraw : Cal G P w K mg base k "_law_draw" ["_law_deck_here", "_law_many"] C.q.w F_Ldraw) :
    PSDs (cxOf (L2.CX P w) P w K mg base n_Lpick "_law_pick" (defScope s_Lpick) f cdv A outer s H E) C (defBody s_Lpick) (t_Lpick px) :=
  have nd := sc_Lpick.nd
  (pssd_one (psd_ret (pd_ix (PO.of (pd_var (i := 1))) (PO.of (pd_call c_Ldraw hr hG hx (by rfl) (da_slot (i := 0) (da_cons (pd_len (by rfl) B.len (PO.of (pd_var (i := 1)))) da_nil)))))))
theorem r_Lpick (px : XP) (as : List DL.Arg) (Q : D → Prop) (h : F_Lpick.run as Q px) : t_Lpick px { nx := fun _ => Q .none, rt := Q } (startD n_Lpick as) := by
  obtain ⟨ds, rfl, h1, h2, h⟩ := h
  refine ⟨(ds.length : Int), rfl, by omega, by omega, fun r r0 r1 => ?_⟩
  have hr : r.toNat < ds.length := by omega
  have e : ((r.toNat : Nat) : Int) = r := by omega
  refine ⟨ds[r.toNat], ?_, h _ (List.getElem_mem hr)⟩
  have q : L2.atI ds ((r.toNat : Nat) : Int) = some ds[r.toNat] := L2.atI_nat (List.getElem?_eq_getElem hr)
  exact (congrArg (L2.atI ds) e.symm).trans q
theorem pow14 : (10 : Int) ^ (14 : Int).toNat = 100000000000000 := by decide
theorem pow7 : (10 : Int) ^ (7 : Int).toNat = 10000000 := by decide
theorem pow6 : (10 : Int) ^ (6 : Int).toNat = 1000000 := by decide
theorem pow13 : (10 : Int) ^ (13 : Int).toNat = 10000000000000 := by decide
theorem pow20 : (10 : Int) ^ (20 : Int).toNat = 100000000000000000000 := by decide
theorem pow19 : (10 : Int) ^ (19 : Int).toNat = 10000000000000000000 := by decide
theorem e20 : (10 : Int) ^ 20 = 100000000000000000000 := by decide
theorem sd_b {i : Int} (h1 : -100000000000000000000 ≤ i) (h2 : i ≤ 100000000000000000000) : Sd i := Sd.of (by rw [e20]; exact h1) (by rw [e20]; exact h2)
theorem Sd.neg {i : Int} (h : Sd i) : Sd (-i) := by unfold Sd at *; rw [Int.natAbs_neg]; exact h
def F_Lnumber : FD := ⟨fun as P _ => ∃ w : Int, as = [.deck, .dat (.int w)] ∧ ∀ i, Sd i → P (.int i), fun as P P' Z Z' k _ ⟨w, e, h⟩ => ⟨w, e, fun i hi => k _ (h i hi)⟩⟩
/-! _law_number -/
abbrev s_Lnumber : Stmt := top 23
abbrev n_Lnumber : List Str := ["_law_deck_here", "_law_way", "_law_great"]
theorem sc_Lnumber : FnScope n_Lnumber ["_law_deck_here", "_law_way"] (defScope s_Lnumber) := ⟨rfl, rfl, rfl, by decide +kernel, rfl, by decide +kernel, by decide +kernel⟩
def t_Lnumber (px : XP) : TSD :=
  (sSeq (sIf (tTestD (dBi gLt (tValD 1) (tCD (.int 2)))) (sRet (tIfD (tTestD (dBi (gEqS false) (tValD 1) (tCD (.int 0)))) (dBi gSub (tCallD F_Ldraw px (aSlot 0 (aCons (tCD (.int 3)) aNil))) (tCD (.int 1))) (dBi gSub (tCallD F_Ldraw px (aSlot 0 (aCons (tCD (.int 31)) aNil))) (tCD (.int 15))))) sNext)
    (sSeq (sSet 2 (dBi gAdd (dBi gAdd (dBi gMul (tCallD F_Ldraw px (aSlot 0 (aCons (tCD (.int 1000000)) aNil))) (dBi gPow (tCD (.int 10)) (tCD (.int 14)))) (dBi gMul (tCallD F_Ldraw px (aSlot 0 (aCons (tCD (.int 1000000)) aNil))) (dBi gPow (tCD (.int 10)) (tCD (.int 7))))) (tCallD F_Ldraw px (aSlot 0 (aCons (tCD (.int 1000000)) aNil)))))
    (sSeq (sSet 2 (tCallD F_Lpick px (aSlot 0 (aCons (dLst (lCons (tValD 2) (lCons (dBi gDiv (tValD 2) (dBi gPow (tCD (.int 10)) (tCD (.int 6)))) (lCons (dBi gDiv (tValD 2) (dBi gPow (tCD (.int 10)) (tCD (.int 13)))) (lCons (dBi gSub (dBi gPow (tCD (.int 10)) (tCD (.int 20))) (tCD (.int 1))) (lCons (dBi gPow (tCD (.int 10)) (tCD (.int 19))) lNil)))))) aNil))))
    (sRet (tIfD (tTestD (dBi (gEqS false) (tCallD F_Ldraw px (aSlot 0 (aCons (tCD (.int 2)) aNil))) (tCD (.int 0)))) (tValD 2) (dUn gNeg (tValD 2)))))))
set_option maxHeartbeats 4000000 in
theorem d_Lnumber {G : Around → Prop} {P : Program} {w : World} {K : PySem.W.Frag} {mg : Str → Option Value} {base : Heap} {k : Nat} (B : Blt3 mg) {f : Addr} {cdv : Value} {A : Around} {outer : List Env} {s : Shared} {H : Hp} {E : XK} {C : Ct} {px : XP}
    (hr : Room k (A.deeper (envOfC "_law_number" (defScope s_Lnumber) s.heap.objs.size f cdv))) (hG : G (A.deeper (envOfC "_law_number" (defScope s_Lnumber) s.heap.objs.size f cdv))) (hx : XO (cxOf (L2.CX P w) P w K mg base n_Lnumber "_law_number" (defScope s_Lnumber) f cdv A outer s H E) C px (L2.CX P w) E) (c_Ldraw : Cal G P w K mg base k "_law_draw" ["_law_deck_here", "_law_many"] C.q.w F_Ldraw) (c_Lpick : Cal G P w K mg base k "_law_pick" ["_law_deck_here", "_law_some"] C.q.w F_Lpick) :
    PSDs (cxOf (L2.CX P w) P w K mg base n_Lnumber "_law_number" (defScope s_Lnumber) f cdv A outer s H E) C (defBody s_Lnumber) (t_Lnumber px) :=
  have nd := sc_Lnumber.nd
  (pssd_cons (psd_if (dt_lt (PO.of (pd_var (i := 1))) (PO.of pd_int)) (pssd_one (psd_ret (pd_ifE (dt_eqS (PO.of (pd_var (i := 1))) (PO.of pd_int)) (pd_sub (PO.of (pd_call c_Ldraw hr hG hx (by rfl) (da_slot (i := 0) (da_cons pd_int da_nil)))) (PO.of pd_int)) (pd_sub (PO.of (pd_call c_Ldraw hr hG hx (by rfl) (da_slot (i := 0) (da_cons pd_int da_nil)))) (PO.of pd_int))))) pssd_nil)
    (pssd_cons (psd_set 2 nd (pd_add (PO.of (pd_add (PO.of (pd_mul (PO.of (pd_call c_Ldraw hr hG hx (by rfl) (da_slot (i := 0) (da_cons pd_int da_nil)))) (PO.of (pd_pow (PO.of pd_int) (PO.of pd_int))))) (PO.of (pd_mul (PO.of (pd_call c_Ldraw hr hG hx (by rfl) (da_slot (i := 0) (da_cons pd_int da_nil)))) (PO.of (pd_pow (PO.of pd_int) (PO.of pd_int))))))) (PO.of (pd_call c_Ldraw hr hG hx (by rfl) (da_slot (i := 0) (da_cons pd_int da_nil))))))
    (pssd_cons (psd_set 2 nd (pd_call c_Lpick hr hG hx (by rfl) (da_slot (i := 0) (da_cons (PD.ofF (pf_lst (ds_cons (pd_var (i := 2)) (ds_cons (pd_div (PO.of (pd_var (i := 2))) (PO.of (pd_pow (PO.of pd_int) (PO.of pd_int)))) (ds_cons (pd_div (PO.of (pd_var (i := 2))) (PO.of (pd_pow (PO.of pd_int) (PO.of pd_int)))) (ds_cons (pd_sub (PO.of (pd_pow (PO.of pd_int) (PO.of pd_int))) (PO.of pd_int)) (ds_cons (pd_pow (PO.of pd_int) (PO.of pd_int)) ds_nil))))))) da_nil))))
    (pssd_one (psd_ret (pd_ifE (dt_eqS (PO.of (pd_call c_Ldraw hr hG hx (by rfl) (da_slot (i := 0) (da_cons pd_int da_nil)))) (PO.of pd_int)) (pd_var (i := 2)) (pd_neg (PO.of (pd_var (i := 2))))))))))
theorem r_Lnumber (px : XP) (as : List DL.Arg) (Q : D → Prop) (h : F_Lnumber.run as Q px) : t_Lnumber px { nx := fun _ => Q .none, rt := Q } (startD n_Lnumber as) := by
  obtain ⟨w, rfl, h⟩ := h
  refine ite_t (b := decide (w < 2)) (fun _ => ?_) (fun _ => ?_)
  · refine ite_t (b := decide (w = 0)) (fun _ => ?_) (fun _ => ?_)
    · exact ⟨3, rfl, by decide, by decide, fun r r0 r1 => h _ (sd_b (by omega) (by omega))⟩
    · exact ⟨31, rfl, by decide, by decide, fun r r0 r1 => h _ (sd_b (by omega) (by omega))⟩
  · have sm : ∀ x : Int, 0 ≤ x → x < 1000000 → Sm 70 x := fun x x0 x1 => Sm.of (by omega) (by omega)
    refine ⟨1000000, rfl, by decide, by decide, fun r r0 r1 => ⟨⟨by decide, by decide, by decide⟩, (sm r r0 r1).cmul (b := 70) (by rw [pow14]; exact Sm.of (by omega) (by omega)) (by omega), ?_⟩⟩
    refine ⟨1000000, rfl, by decide, by decide, fun q q0 q1 => ⟨⟨by decide, by decide, by decide⟩, (sm q q0 q1).cmul (b := 70) (by rw [pow7]; exact Sm.of (by omega) (by omega)) (by omega), ?_⟩⟩
    refine ⟨1000000, rfl, by decide, by decide, fun u u0 u1 => ?_⟩
    have hv0 : 0 ≤ r * 10 ^ (14 : Int).toNat + q * 10 ^ (7 : Int).toNat + u := by rw [pow14, pow7]; omega
    have hv1 : r * 10 ^ (14 : Int).toNat + q * 10 ^ (7 : Int).toNat + u < 100000000000000000000 := by rw [pow14, pow7]; omega
    obtain ⟨v, ev⟩ : ∃ v, v = r * 10 ^ (14 : Int).toNat + q * 10 ^ (7 : Int).toNat + u := ⟨_, rfl⟩
    rw [← ev] at hv0 hv1
    refine ⟨⟨by decide, by decide, by decide⟩, ⟨by decide, by decide⟩, ⟨by decide, by decide, by decide⟩, ⟨by decide, by decide⟩, ⟨by decide, by decide, by decide⟩, ⟨by decide, by decide, by decide⟩, (by show 5 ≤ sizeLine; decide), _, rfl, (by show 1 ≤ 5; decide), (by show 5 ≤ 100; decide), fun d hd => ?_⟩
    have hd : d ∈ [PyData.int (r * 10 ^ (14 : Int).toNat + q * 10 ^ (7 : Int).toNat + u), .int ((r * 10 ^ (14 : Int).toNat + q * 10 ^ (7 : Int).toNat + u) / 10 ^ (6 : Int).toNat), .int ((r * 10 ^ (14 : Int).toNat + q * 10 ^ (7 : Int).toNat + u) / 10 ^ (13 : Int).toNat), .int (10 ^ (20 : Int).toNat - 1), .int (10 ^ (19 : Int).toNat)] := hd
    rw [← ev, pow6, pow13, pow20, pow19] at hd
    have go : ∀ i : Int, Sd i → sRet (tIfD (tTestD (dBi (gEqS false) (tCallD F_Ldraw px (aSlot 0 (aCons (tCD (.int 2)) aNil))) (tCD (.int 0)))) (tValD 2) (dUn gNeg (tValD 2))) { nx := fun _ => Q .none, rt := Q } [.deck, .val (.int w), .val (.int i)] := fun i hi =>
      ⟨2, rfl, by decide, by decide, fun x x0 x1 => ite_t (b := decide (x = 0)) (fun _ => h _ hi) (fun _ => h _ hi.neg)⟩
    simp only [List.mem_cons, List.not_mem_nil, or_false] at hd
    rcases hd with rfl | rfl | rfl | rfl | rfl
    · exact go _ (sd_b (by omega) (by omega))
    · exact go _ (sd_b (by omega) (by omega))
    · exact go _ (sd_b (by omega) (by omega))
    · exact go _ (sd_b (by omega) (by omega))
    · exact go _ (sd_b (by omega) (by omega))
theorem il_set (r : List Int) (j : Nat) (x : Int) : (il r).set j (.int x) = il (r.set j x) := by unfold il; rw [List.map_set]
theorem ixN_nat {n i : Nat} (h : i < n) : L2.ixN n (i : Int) = some i := by
  unfold L2.ixN
  rw [if_pos (by omega), if_pos (by omega), Int.toNat_natCast]
/-! ### tables drawn -/
def setE (m : List (List Int)) (i j : Nat) (x : Int) : List (List Int) := m.set i ((m.getD i []).set j x)
structure Dr (m : List (List Int)) (n : Nat) : Prop where
  sq : Sq m n
  sz : ∀ r ∈ m, ∀ x ∈ r, Sd x
theorem setE_dr {m : List (List Int)} {n i j : Nat} {x : Int} (h : Dr m n) (hi : i < n) (hx : Sd x) : Dr (setE m i j x) n := by
  have hr := row_len h.sq hi
  have hl : i < m.length := by rw [h.sq.len]; exact hi
  have hm : m.getD i [] ∈ m := by
    have e : m.getD i [] = m[i] := by simp [hl]
    rw [e]
    exact List.getElem_mem hl
  refine ⟨⟨by unfold setE; rw [List.length_set]; exact h.sq.len, fun r hrm => ?_⟩, fun r hrm y hy => ?_⟩
  · rcases List.mem_or_eq_of_mem_set hrm with z | z
    · exact h.sq.row r z
    · rw [z, List.length_set]; exact hr
  · rcases List.mem_or_eq_of_mem_set hrm with z | z
    · exact h.sz r z y hy
    · rw [z] at hy
      rcases List.mem_or_eq_of_mem_set hy with y1 | y1
      · exact h.sz _ hm y y1
      · rw [y1]; exact hx
theorem setE_entry {m : List (List Int)} {n i j a b : Nat} {x : Int} (h : Sq m n) (hi : i < n) (hj : j < n) (ha : a < n) (hb : b < n) : entry (setE m i j x) a b = if a = i ∧ b = j then x else entry m a b := by
  have hr := row_len h hi
  have hl : i < m.length := by rw [h.len]; exact hi
  have hla : a < m.length := by rw [h.len]; exact ha
  unfold entry setE at0
  by_cases e : a = i
  · subst e
    have e1 : (m.set a ((m.getD a []).set j x)).getD a [] = (m.getD a []).set j x := by simp [hl]
    rw [e1]
    by_cases e2 : b = j
    · subst e2
      have : b < (m.getD a []).length := by rw [hr]; exact hb
      rw [if_pos ⟨rfl, rfl⟩]
      simp only [List.getD_eq_getElem?_getD, List.getElem?_set_self (by simpa using this), Option.getD_some]
    · rw [if_neg fun z => e2 z.2]
      simp only [List.getD_eq_getElem?_getD, List.getElem?_set_ne (Ne.symm e2)]
  · rw [if_neg fun z => e z.1]
    simp only [List.getD_eq_getElem?_getD, List.getElem?_set_ne (Ne.symm e)]
theorem set_two {m : List (List Int)} {n i j : Nat} {x : Int} (h : Dr m n) (hs : ∀ a b, a < n → b < n → entry m a b = entry m b a) (hi : i < n) (hj : j < n) (hx : Sd x) :
    Dr (setE (setE m i j x) j i x) n ∧ ∀ a b, a < n → b < n → entry (setE (setE m i j x) j i x) a b = entry (setE (setE m i j x) j i x) b a := by
  have h1 := setE_dr (j := j) h hi hx
  refine ⟨setE_dr h1 hj hx, fun a b ha hb => ?_⟩
  rw [setE_entry h1.sq hj hi ha hb, setE_entry h1.sq hj hi hb ha, setE_entry h.sq hi hj ha hb, setE_entry h.sq hi hj hb ha, hs a b ha hb]
  by_cases e1 : a = j <;> by_cases e2 : b = i <;> by_cases e3 : a = i <;> by_cases e4 : b = j <;> simp_all
def F_Ldrawn : FD := ⟨fun as P _ => ∃ n : Nat, as = [.deck, .dat (.int n)] ∧ 1 ≤ n ∧ n ≤ 12 ∧ ∀ m, Good m n → P (tab m), fun as P P' Z Z' k _ ⟨n, e, h1, h2, h⟩ => ⟨n, e, h1, h2, fun m g => k _ (h m g)⟩⟩
/-! _law_drawn -/
abbrev s_Ldrawn : Stmt := top 24
abbrev n_Ldrawn : List Str := ["_law_deck_here", "_law_n", "_law_way", "_law_rows", "_law_at", "_law_i", "_law_j", "_law_entry", "_law_row"]
theorem sc_Ldrawn : FnScope n_Ldrawn ["_law_deck_here", "_law_n"] (defScope s_Ldrawn) := ⟨rfl, rfl, rfl, by decide +kernel, rfl, by decide +kernel, by decide +kernel⟩
def t_Ldrawn (px : XP) : TSD :=
  (sSeq (sParV2 2 3 (tCallD F_Ldraw px (aSlot 0 (aCons (tCD (.int 3)) aNil))) (dComp (iR1 (tValD 1)) (.nm 4) tYesD (dBi gRep (dLst (lCons (tCD (.int 0)) lNil)) (tValD 1)) [4]))
    (sSeq (sFor (iR1 (tValD 1)) (.nm 5) (sFor (iR1 (dBi gAdd (tValD 5) (tCD (.int 1)))) (.nm 6) (sSeq (sSet 7 (tCallD F_Lnumber px (aSlot 0 (aCons (tValD 2) aNil))))
    (sSeq (sStore2 3 (tValD 7) (tValD 5) (tValD 6))
    (sStore2 3 (tValD 7) (tValD 6) (tValD 5))))))
    (sFreeze2 3 (sRet (dUn gTuple (dComp (iL (tValD 3)) (.nm 8) tYesD (dUn gTuple (tValD 8)) [8]))))))
set_option maxHeartbeats 4000000 in
theorem d_Ldrawn {G : Around → Prop} {P : Program} {w : World} {K : PySem.W.Frag} {mg : Str → Option Value} {base : Heap} {k : Nat} (B : Blt3 mg) {f : Addr} {cdv : Value} {A : Around} {outer : List Env} {s : Shared} {H : Hp} {E : XK} {C : Ct} {px : XP}
    (hr : Room k (A.deeper (envOfC "_law_drawn" (defScope s_Ldrawn) s.heap.objs.size f cdv))) (hG : G (A.deeper (envOfC "_law_drawn" (defScope s_Ldrawn) s.heap.objs.size f cdv))) (hx : XO (cxOf (L2.CX P w) P w K mg base n_Ldrawn "_law_drawn" (defScope s_Ldrawn) f cdv A outer s H E) C px (L2.CX P w) E) (c_Ldraw : Cal G P w K mg base k "_law_draw" ["_law_deck_here", "_law_many"] C.q.w F_Ldraw) (c_Lnumber : Cal G P w K mg base k "_law_number" ["_law_deck_here", "_law_way"] C.q.w F_Lnumber) :
    PSDs (cxOf (L2.CX P w) P w K mg base n_Ldrawn "_law_drawn" (defScope s_Ldrawn) f cdv A outer s H E) C (defBody s_Ldrawn) (t_Ldrawn px) :=
  have nd := sc_Ldrawn.nd
  (pssd_cons (psd_parV2 (.nm 4) [("_law_at", 4)] rfl nd (pd_call c_Ldraw hr hG hx (by rfl) (da_slot (i := 0) (da_cons pd_int da_nil))) (di_range1 (by rfl) B.range (pd_var (i := 1))) (blk_by (N := n_Ldrawn) (sc := defScope s_Ldrawn) (by decide +kernel)) (by decide) (fun s H A cl fp => (pg_name (i := 4) nd rfl (by first | exact .inl rfl | exact .inr rfl) (by first | exact .inr rfl | exact .inl rfl))) (fun s H A cl fp => dts_nil) (fun s H A cl fp => (pf_rep (PO.of (PD.ofF (pf_lst (ds_cons pd_int ds_nil)))) (PO.of (pd_var (i := 1))))))
    (pssd_cons (psd_for (.nm 5) own_of rfl (di_range1 (by rfl) B.range (pd_var (i := 1))) (pg_name (i := 5) nd rfl (.inl rfl)) (pssd_one (psd_for (.nm 6) own_of rfl (di_range1 (by rfl) B.range (pd_add (PO.of (pd_var (i := 5))) (PO.of pd_int))) (pg_name (i := 6) nd rfl (.inl rfl)) (pssd_cons (psd_set 7 nd (pd_call c_Lnumber hr hG hx (by rfl) (da_slot (i := 0) (da_cons (pd_var (i := 2)) da_nil))))
    (pssd_cons (psd_store2 3 (pd_var (i := 7)) (pd_var (i := 5)) (pd_var (i := 6)))
    (pssd_one (psd_store2 3 (pd_var (i := 7)) (pd_var (i := 6)) (pd_var (i := 5)))))))))
    (pssd_freeze2 3 (pssd_one (psd_ret (pd_tuple (by rfl) B.tuple (PO.of (PD.ofF (pf_compC (.nm 8) [("_law_row", 8)] rfl nd (DIC.of (di_list (pd_var (i := 3)))) (blk_by (N := n_Ldrawn) (sc := defScope s_Ldrawn) (by decide +kernel)) (by decide) (fun s H A cl fp => (pg_name (i := 8) nd rfl (by first | exact .inl rfl | exact .inr rfl) (by first | exact .inr rfl | exact .inl rfl))) (fun s H A cl fp => dts_nil) (fun s H A cl fp => (pd_tuple (by rfl) B.tuple (PO.of (pd_var (i := 8))))))))))))))
theorem store_row {D : EndsD} {m : List (List Int)} {n a b : Nat} {x : Int} {ρ : List Slot} {ir ie i6 i7 : Nat} (h : Sq m n) (ha : a < n) (hb : b < n) (h4 : ρ[ir]? = some (.own2 (m.map il))) (h8 : ρ[ie]? = some (.val (.int x))) (h6 : ρ[i6]? = some (.val (.int (a : Int)))) (h7 : ρ[i7]? = some (.val (.int (b : Int)))) (k : D.nx (ρ.set ir (.own2 ((setE m a b x).map il)))) :
    sStore2 ir (tValD ie) (tValD i6) (tValD i7) D ρ := by
  have hl : a < m.length := by rw [h.len]; exact ha
  have hr := row_len h ha
  unfold sStore2 tValD
  rw [h4, h8, h6, h7]
  refine ⟨a, il (m.getD a []), by rw [List.length_map]; exact ixN_nat hl, by simp [hl], b, by rw [il_len]; exact ixN_nat (by omega), ?_⟩
  have e : (m.map il).set a ((il (m.getD a [])).set b (.int x)) = (setE m a b x).map il := by
    unfold setE
    rw [il_set, List.map_set]
  rw [e]
  exact k
theorem zero_rows (n : Nat) : (List.replicate ((n : Int)).toNat [PyData.int 0]).flatten = il (List.replicate n 0) := by
  rw [Int.toNat_natCast]
  have : ∀ k : Nat, (List.replicate k [PyData.int 0]).flatten = il (List.replicate k 0) := by
    intro k
    induction k with
    | zero => rfl
    | succ k ih => rw [List.replicate_succ, List.flatten_cons, ih, List.replicate_succ]; rfl
  exact this n
theorem dr0 (n : Nat) : Dr (List.replicate n (List.replicate n (0 : Int))) n := ⟨⟨by simp, fun r hr => by rw [List.eq_of_mem_replicate hr]; simp⟩, fun r hr x hx => by rw [List.eq_of_mem_replicate hr] at hx; rw [List.eq_of_mem_replicate hx]; exact Sd.zero⟩
theorem en0 {n a b : Nat} (ha : a < n) (hb : b < n) : entry (List.replicate n (List.replicate n (0 : Int))) a b = 0 := by
  unfold entry at0
  simp [ha, hb]
def DrS (m : List (List Int)) (n : Nat) : Prop := Dr m n ∧ ∀ a b, a < n → b < n → entry m a b = entry m b a
theorem dr_store {D : EndsD} {px : XP} {m : List (List Int)} {n i j : Nat} {w : Int} {o1 o4 o7 : Slot} (dm : DrS m n) (hi : i < n) (hj : j < n) (k : ∀ m' o7, DrS m' n → D.nx [.deck, o1, .val (.int w), .own2 (m'.map il), o4, .val (.int (i : Int)), .val (.int (j : Int)), o7, .un]) :
    (sSeq (sSet 7 (tCallD F_Lnumber px (aSlot 0 (aCons (tValD 2) aNil))))
    (sSeq (sStore2 3 (tValD 7) (tValD 5) (tValD 6))
    (sStore2 3 (tValD 7) (tValD 6) (tValD 5)))) D [.deck, o1, .val (.int w), .own2 (m.map il), o4, .val (.int (i : Int)), .val (.int (j : Int)), o7, .un] := by
  refine ⟨w, rfl, fun x hx => ?_⟩
  obtain ⟨g1, g2⟩ := set_two dm.1 dm.2 hi hj hx
  refine store_row (ρ := [.deck, o1, .val (.int w), .own2 (m.map il), o4, .val (.int (i : Int)), .val (.int (j : Int)), .val (.int x), .un]) (ir := 3) (ie := 7) (i6 := 5) (i7 := 6) dm.1.sq hi hj rfl rfl rfl rfl ?_
  refine store_row (ρ := [.deck, o1, .val (.int w), .own2 ((setE m i j x).map il), o4, .val (.int (i : Int)), .val (.int (j : Int)), .val (.int x), .un]) (ir := 3) (ie := 7) (i6 := 6) (i7 := 5) (setE_dr dm.1 hi hx).sq hj hi rfl rfl rfl rfl ?_
  exact k _ _ ⟨g1, g2⟩
theorem r_Ldrawn (px : XP) (as : List DL.Arg) (Q : D → Prop) (h : F_Ldrawn.run as Q px) : t_Ldrawn px { nx := fun _ => Q .none, rt := Q } (startD n_Ldrawn as) := by
  obtain ⟨n, rfl, h1, h2, h⟩ := h
  have s1 : 1 ≤ sizeLine := by decide
  refine ⟨3, rfl, by decide, by decide, fun w w0 w1 => ?_⟩
  have hrl : (rangeD 0 1 ((n : Int)).toNat).length = n := by unfold rangeD; simp
  refine ⟨⟨by omega, by omega⟩, ?_⟩
  refine comp_pure (fun _ => some (.list (il (List.replicate n 0)))) (rangeD 0 1 ((n : Int)).toNat) [] (fun d hd R r => ?_) (by rw [hrl]; exact Nat.le_trans (show 0 + n ≤ 12 by omega) (by decide)) ?_
  · refine ⟨s1, ⟨by omega, by omega, by show 1 * ((n : Int)).toNat ≤ sizeLine; rw [Int.toNat_natCast]; exact Nat.le_trans (show 1 * n ≤ 12 by omega) (by decide)⟩, ?_⟩
    show R (some (.list (List.replicate ((n : Int)).toNat [PyData.int 0]).flatten))
    rw [zero_rows]
    exact r
  rw [List.nil_append, fm_map, List.map_const', hrl]
  refine ⟨List.replicate n (il (List.replicate n 0)), by rw [List.map_replicate], ?_⟩
  have e0 : List.replicate n (il (List.replicate n 0)) = (List.replicate n (List.replicate n (0 : Int))).map il := by rw [List.map_replicate]
  rw [e0]
  refine ⟨⟨by omega, by omega⟩, ?_⟩
  refine forD_inv (fun ρ => ∃ m o5 o6 o7, DrS m n ∧ ρ = [.deck, .val (.int n), .val (.int w), .own2 (m.map il), .un, o5, o6, o7, .un]) (rangeD 0 1 ((n : Int)).toNat) ?_ ?_ _ ⟨_, _, _, _, ⟨dr0 n, (fun a b ha hb => by rw [en0 ha hb, en0 hb ha])⟩, rfl⟩
  · rintro d hd ρ ⟨m, o5, o6, o7, dm, rfl⟩ N k
    obtain ⟨i, hi, rfl⟩ : ∃ i : Nat, i < n ∧ d = .int ((i : Nat) : Int) := by
      unfold rangeD at hd
      obtain ⟨j, hj, rfl⟩ := List.mem_map.mp hd
      exact ⟨j, by have := List.mem_range.mp hj; rwa [Int.toNat_natCast] at this, by simp⟩
    refine ⟨⟨by omega, by omega⟩, ?_⟩
    show forD _ _ _ (rangeD 0 1 (((i : Nat) : Int) + 1).toNat) _
    refine forD_inv (fun ρ => ∃ m o6 o7, DrS m n ∧ ρ = [.deck, .val (.int n), .val (.int w), .own2 (m.map il), .un, .val (.int ((i : Nat) : Int)), o6, o7, .un]) _ ?_ ?_ _ ⟨m, _, _, dm, rfl⟩
    · rintro d hd ρ ⟨m, o6, o7, dm, rfl⟩ N2 k2
      obtain ⟨j, hj, rfl⟩ : ∃ j : Nat, j < n ∧ d = .int ((j : Nat) : Int) := by
        unfold rangeD at hd
        obtain ⟨j, hj, rfl⟩ := List.mem_map.mp hd
        have := List.mem_range.mp hj
        exact ⟨j, by omega, by simp⟩
      exact dr_store dm hi hj fun m' o7 dm' => k2 _ ⟨m', _, _, dm', rfl⟩
    · rintro ρ ⟨m, _, _, dm, rfl⟩
      exact k _ ⟨m, _, _, _, dm, rfl⟩
  · rintro ρ ⟨m, o5, o6, o7, ⟨dm, sm⟩, rfl⟩
    have hml : ((m.map il).map PyData.list).length = n := by rw [List.length_map, List.length_map, dm.sq.len]
    let f : D → Option D := fun d => match d with
      | .list ds => some (.tuple ds)
      | _ => none
    have fe : ((m.map il).map PyData.list).filterMap f = m.map iTup := by
      rw [List.map_map, List.filterMap_map, ← List.filterMap_eq_map]
      rfl
    refine comp_pure f ((m.map il).map PyData.list) [] (fun d hd R r => ?_) (by rw [hml]; exact Nat.le_trans (show 0 + n ≤ 12 by omega) (by decide)) ?_
    · obtain ⟨x, hx, rfl⟩ := List.mem_map.mp hd
      exact r
    · rw [List.nil_append, fe]
      exact h m ⟨dm.sq, h1, h2, sm, dm.sz⟩

end Z

namespace Z
open PySem PySem.Spec PyProof.Rows L2 DL TL
/-! ### a text with a bend -/
structure TB (n : Nat) (z : Str) : Prop where
  len : z.length ≤ n
  ch : ∀ c ∈ tl z, c < 2000
theorem TB.le {n k : Nat} {z : Str} (h : TB n z) (hk : n ≤ k) : TB k z := ⟨Nat.le_trans h.len hk, h.ch⟩
theorem TB.app {n k : Nat} {x y : Str} (h : TB n x) (h' : TB k y) : TB (n + k) (x ++ y) := ⟨by rw [strLen_append]; have := h.len; have := h'.len; omega, fun c hc => by
  rw [tl_append] at hc
  exact (List.mem_append.mp hc).elim (h.ch c) (h'.ch c)⟩
theorem tl_cut (z : Str) (lo hi : Option Int) : tl (cutS z lo hi) = ((tl z).drop (HT.sIx z.length 0 lo)).take (HT.sIx z.length z.length hi - HT.sIx z.length 0 lo) := rfl
theorem TB.cut {n : Nat} {z : Str} (h : TB n z) (lo hi : Option Int) : TB n (cutS z lo hi) := ⟨by
  have := h.len
  rw [len_tl, tl_cut, List.length_take, List.length_drop, ← len_tl]
  omega, fun c hc => by
  rw [tl_cut] at hc
  exact h.ch c (List.mem_of_mem_drop (List.mem_of_mem_take hc))⟩
def wt : List Str → Nat
  | [] => 0
  | p :: ps => p.length + 1 + wt ps
theorem wt_eq : ∀ ps : List Str, wt ps = (ps.map (·.length)).sum + ps.length
  | [] => rfl
  | p :: ps => by
    rw [List.map_cons, List.sum_cons, List.length_cons]
    show p.length + 1 + wt ps = _
    rw [wt_eq ps]
    omega
theorem wt_app (a b : List Str) : wt (a ++ b) = wt a + wt b := by
  rw [wt_eq, wt_eq, wt_eq, List.map_append, List.sum_append, List.length_append]
  omega
theorem wt_sub {a b : List Str} (h : a.Sublist b) : wt a ≤ wt b := by
  induction h with
  | slnil => exact Nat.le_refl _
  | cons x _ ih => show wt _ ≤ x.length + 1 + wt _; omega
  | cons_cons x _ ih => show x.length + 1 + wt _ ≤ x.length + 1 + wt _; omega
structure LB (n : Nat) (ls : List Str) : Prop where
  w : wt ls ≤ n
  ch : ∀ p ∈ ls, ∀ c ∈ tl p, c < 2000
def LD (n : Nat) (ds : List D) : Prop := ∃ ls : List Str, ds = ls.map PyData.str ∧ LB n ls
theorem LD.le {n k : Nat} {ds : List D} (h : LD n ds) (hk : n ≤ k) : LD k ds := by
  obtain ⟨ls, e, w, c⟩ := h
  exact ⟨ls, e, Nat.le_trans w hk, c⟩
theorem LD.len {n : Nat} {ds : List D} (h : LD n ds) : ds.length ≤ n := by
  obtain ⟨ls, rfl, w, c⟩ := h
  rw [wt_eq] at w
  rw [List.length_map]
  omega
theorem LD.app {n k : Nat} {a b : List D} (h : LD n a) (h' : LD k b) : LD (n + k) (a ++ b) := by
  obtain ⟨ls, rfl, w, c⟩ := h
  obtain ⟨ls', rfl, w', c'⟩ := h'
  refine ⟨ls ++ ls', by rw [List.map_append], by rw [wt_app]; omega, fun p hp => ?_⟩
  exact (List.mem_append.mp hp).elim (c p) (c' p)
theorem LD.cut {n : Nat} {ds : List D} (h : LD n ds) (lo hi : Option Int) : LD n (DL.cutD ds lo hi) := by
  obtain ⟨ls, rfl, w, c⟩ := h
  unfold DL.cutD
  rw [← List.map_drop, ← List.map_take]
  have sub := (List.take_sublist (HT.sIx (ls.map PyData.str).length (ls.map PyData.str).length hi - HT.sIx (ls.map PyData.str).length 0 lo) (ls.drop (HT.sIx (ls.map PyData.str).length 0 lo))).trans (List.drop_sublist _ _)
  exact ⟨_, rfl, Nat.le_trans (wt_sub sub) w, fun p hp => c p (sub.subset hp)⟩
theorem LD.one {n : Nat} {z : Str} (h : TB n z) : LD (n + 1) [.str z] := ⟨[z], rfl, by have := h.len; show z.length + 1 + 0 ≤ _; omega, fun p hp => by rw [List.mem_singleton.mp hp]; exact h.ch⟩
theorem LD.split {n : Nat} {z y : Str} (h : TB n z) (hy : 1 ≤ y.length) : LD (n + 1) ((Txt.split z y).map PyData.str) := by
  refine ⟨_, rfl, ?_, fun p hp c hc => h.ch c ((part_infix hp).mem hc)⟩
  have := split_weight z y hy
  have := h.len
  rw [wt_eq]
  omega
theorem LD.at {n : Nat} {ds : List D} (h : LD n ds) {i : Int} (h0 : 0 ≤ i) (h1 : i < ds.length) : ∃ z, L2.atI ds i = some (.str z) ∧ TB n z := by
  obtain ⟨ls, rfl, w, c⟩ := h
  rw [List.length_map] at h1
  have hi : i.toNat < ls.length := by omega
  have e : i = ((i.toNat : Nat) : Int) := by omega
  have key : L2.atI (ls.map PyData.str) ((i.toNat : Nat) : Int) = some (.str ls[i.toNat]) := by
    refine L2.atI_nat ?_
    rw [List.getElem?_map]
    simp [hi]
  refine ⟨ls[i.toNat], (congrArg (L2.atI _) e).trans key, ?_, c _ (List.getElem_mem hi)⟩
  have := wt_sub (List.singleton_sublist.mpr (List.getElem_mem hi))
  have e2 : wt [ls[i.toNat]] = ls[i.toNat].length + 1 + 0 := rfl
  omega
theorem one_nl : nl.length = 1 := by decide +kernel
theorem one_sp : sp.length = 1 := by decide +kernel
theorem ld_join {y : Str} (hy : y.length = 1) (hc : ∀ c ∈ tl y, c < 2000) {n : Nat} {ds : List D} (h : LD n ds) (hn : n ≤ 16000000) {P : D → Prop} (k : ∀ z, TB n z → P (.str z)) : gJoin (.str y) (.list ds) P := by
  obtain ⟨ls, rfl, w, c⟩ := h
  rw [wt_eq] at w
  refine ⟨ls, rfl, by rw [hy]; omega, k _ ⟨?_, fun a ha => ?_⟩⟩
  · have := join_len y ls
    rw [hy] at this
    omega
  · rcases mem_join ha with q | ⟨p, hp, q⟩
    · exact hc a q
    · exact c p hp a q
theorem nl_ch : ∀ c ∈ tl nl, c < 2000 := by rw [nl_tl]; intro c hc; rw [List.mem_singleton.mp hc]; decide
theorem sp_ch : ∀ c ∈ tl sp, c < 2000 := by rw [sp_tl]; intro c hc; rw [List.mem_singleton.mp hc]; decide
def F_Lbent : FD := ⟨fun as P _ => ∃ (z : Str) (n : Nat), as = [.deck, .dat (.str z)] ∧ n ≤ 20000 ∧ TB n z ∧ ∀ z', TB (5 * n + 20) z' → P (.str z'), fun as P P' Z Z' k _ ⟨z, n, e, h1, h2, h⟩ => ⟨z, n, e, h1, h2, fun z' hz => k _ (h z' hz)⟩⟩
/-! _law_bent -/
abbrev s_Lbent : Stmt := top 26
abbrev n_Lbent : List Str := ["_law_deck_here", "_law_text_here", "_law_way", "_law_at", "_law_lines", "_law_sign", "_law_line", "_law_words", "_law_spot", "_law_word"]
theorem sc_Lbent : FnScope n_Lbent ["_law_deck_here", "_law_text_here"] (defScope s_Lbent) := ⟨rfl, rfl, rfl, by decide +kernel, rfl, by decide +kernel, by decide +kernel⟩
def t_Lbent (px : XP) : TSD :=
  (sSeq (sPar [2, 3, 4] (mVal (tCallD F_Ldraw px (aSlot 0 (aCons (tCD (.int 8)) aNil))) (mVal (tCallD F_Ldraw px (aSlot 0 (aCons (dBi gAdd (dUn gLen (tValD 1)) (tCD (.int 1))) aNil))) (mVal (dM1 gSplit (tValD 1) (tCD (.str "\n"))) mNil))))
    (sSeq (sPar [5, 6] (mVal (tCallD F_Lpick px (aSlot 0 (aCons (dUn gListS (tCD (.str "0123456789-+ \n_at"))) aNil))) (mVal (tCallD F_Ldraw px (aSlot 0 (aCons (dUn gLen (tValD 4)) aNil))) mNil)))
    (sSeq (sIf (tTestD (dBi (gEqS false) (tValD 2) (tCD (.int 0)))) (sRet (dBi gAdd (dSl gSlT (tValD 1) oNone (oSome (tValD 3))) (dSl gSlT (tValD 1) (oSome (dBi gAdd (tValD 3) (tCD (.int 1)))) oNone))) sNext)
    (sSeq (sIf (tTestD (dBi (gEqS false) (tValD 2) (tCD (.int 1)))) (sRet (dBi gAdd (dBi gAdd (dSl gSlT (tValD 1) oNone (oSome (tValD 3))) (tValD 5)) (dSl gSlT (tValD 1) (oSome (tValD 3)) oNone))) sNext)
    (sSeq (sIf (tTestD (dBi (gEqS false) (tValD 2) (tCD (.int 2)))) (sRet (dBi gAdd (dBi gAdd (dSl gSlT (tValD 1) oNone (oSome (tValD 3))) (tValD 5)) (dSl gSlT (tValD 1) (oSome (dBi gAdd (tValD 3) (tCD (.int 1)))) oNone))) sNext)
    (sSeq (sIf (tTestD (dBi (gEqS false) (tValD 2) (tCD (.int 3)))) (sRet (dM1 gJoin (tCD (.str "\n")) (dBi gCat (dSl gSlL (tValD 4) oNone (oSome (tValD 6))) (dSl gSlL (tValD 4) (oSome (dBi gAdd (tValD 6) (tCD (.int 1)))) oNone)))) sNext)
    (sSeq (sIf (tTestD (dBi (gEqS false) (tValD 2) (tCD (.int 4)))) (sRet (dM1 gJoin (tCD (.str "\n")) (dBi gCat (dBi gCat (dSl gSlL (tValD 4) oNone (oSome (tValD 6))) (dSl gSlL (tValD 4) (oSome (tValD 6)) (oSome (dBi gAdd (tValD 6) (tCD (.int 1)))))) (dSl gSlL (tValD 4) (oSome (tValD 6)) oNone)))) sNext)
    (sSeq (sIf (tTestD (dBi (gEqS false) (tValD 2) (tCD (.int 5)))) (sRet (dM1 gJoin (tCD (.str "\n")) (dBi gCat (dBi gCat (dBi gCat (dSl gSlL (tValD 4) oNone (oSome (tValD 6))) (dSl gSlL (tValD 4) (oSome (dBi gAdd (tValD 6) (tCD (.int 1)))) (oSome (dBi gAdd (tValD 6) (tCD (.int 2)))))) (dSl gSlL (tValD 4) (oSome (tValD 6)) (oSome (dBi gAdd (tValD 6) (tCD (.int 1)))))) (dSl gSlL (tValD 4) (oSome (dBi gAdd (tValD 6) (tCD (.int 2)))) oNone)))) sNext)
    (sSeq (sIf (tTestD (dBi (gEqS false) (tValD 2) (tCD (.int 6)))) (sRet (dBi gAdd (tValD 1) (tCallD F_Lpick px (aSlot 0 (aCons (dLst (lCons (tCD (.str " ")) (lCons (tCD (.str "\n")) (lCons (tCD (.str "\n0")) (lCons (tCD (.str "\n\n")) (lCons (tCD (.str " 0")) (lCons (tCD (.str "\ntable 1")) (lCons (tCD (.str "0")) lNil)))))))) aNil))))) sNext)
    (sSeq (sSet 7 (dM1 gSplit (dBi gIx (tValD 4) (tValD 6)) (tCD (.str " "))))
    (sSeq (sSet 8 (tCallD F_Ldraw px (aSlot 0 (aCons (dUn gLen (tValD 7)) aNil))))
    (sSeq (sSet 9 (dBi gAdd (tCallD F_Lpick px (aSlot 0 (aCons (dLst (lCons (tCD (.str "0")) (lCons (tCD (.str "+")) (lCons (tCD (.str "-")) (lCons (tCD (.str "")) (lCons (tCD (.str " ")) (lCons (tCD (.str "00")) (lCons (tCD (.str "1_")) lNil)))))))) aNil))) (dBi gIx (tValD 7) (tValD 8))))
    (sRet (dM1 gJoin (tCD (.str "\n")) (dBi gCat (dBi gCat (dSl gSlL (tValD 4) oNone (oSome (tValD 6))) (dLst (lCons (dM1 gJoin (tCD (.str " ")) (dBi gCat (dBi gCat (dSl gSlL (tValD 7) oNone (oSome (tValD 8))) (dLst (lCons (tValD 9) lNil))) (dSl gSlL (tValD 7) (oSome (dBi gAdd (tValD 8) (tCD (.int 1)))) oNone))) lNil))) (dSl gSlL (tValD 4) (oSome (dBi gAdd (tValD 6) (tCD (.int 1)))) oNone))))))))))))))))
set_option maxHeartbeats 4000000 in
theorem d_Lbent {G : Around → Prop} {P : Program} {w : World} {K : PySem.W.Frag} {mg : Str → Option Value} {base : Heap} {k : Nat} (B : Blt3 mg) {f : Addr} {cdv : Value} {A : Around} {outer : List Env} {s : Shared} {H : Hp} {E : XK} {C : Ct} {px : XP}
    (hr : Room k (A.deeper (envOfC "_law_bent" (defScope s_Lbent) s.heap.objs.size f cdv))) (hG : G (A.deeper (envOfC "_law_bent" (defScope s_Lbent) s.heap.objs.size f cdv))) (hx : XO (cxOf (L2.CX P w) P w K mg base n_Lbent "_law_bent" (defScope s_Lbent) f cdv A outer s H E) C px (L2.CX P w) E) (c_Ldraw : Cal G P w K mg base k "_law_draw" ["_law_deck_here", "_law_many"] C.q.w F_Ldraw) (c_Lpick : Cal G P w K mg base k "_law_pick" ["_law_deck_here", "_law_some"] C.q.w F_Lpick) :
    PSDs (cxOf (L2.CX P w) P w K mg base n_Lbent "_law_bent" (defScope s_Lbent) f cdv A outer s H E) C (defBody s_Lbent) (t_Lbent px) :=
  have nd := sc_Lbent.nd
  (pssd_cons (psd_par3 rfl nd (dm_val (pd_call c_Ldraw hr hG hx (by rfl) (da_slot (i := 0) (da_cons pd_int da_nil))) (dm_val (pd_call c_Ldraw hr hG hx (by rfl) (da_slot (i := 0) (da_cons (pd_add (PO.of (pd_len (by rfl) B.len (PO.of (pd_var (i := 1))))) (PO.of pd_int)) da_nil))) (dm_val (PD.ofF (pf_split (PO.of (pd_var (i := 1))) (PO.of pd_str))) dm_nil))))
    (pssd_cons (psd_par rfl nd (dm_val (pd_call c_Lpick hr hG hx (by rfl) (da_slot (i := 0) (da_cons (PD.ofF (pf_listS (by rfl) B.list (PO.of pd_str))) da_nil))) (dm_val (pd_call c_Ldraw hr hG hx (by rfl) (da_slot (i := 0) (da_cons (pd_len (by rfl) B.len (PO.of (pd_var (i := 4)))) da_nil))) dm_nil)))
    (pssd_cons (psd_if (dt_eqS (PO.of (pd_var (i := 2))) (PO.of pd_int)) (pssd_one (psd_ret (pd_add (PO.of (pd_slT (PO.of (pd_var (i := 1))) dp_none (dp_some (pd_var (i := 3))))) (PO.of (pd_slT (PO.of (pd_var (i := 1))) (dp_some (pd_add (PO.of (pd_var (i := 3))) (PO.of pd_int))) dp_none))))) pssd_nil)
    (pssd_cons (psd_if (dt_eqS (PO.of (pd_var (i := 2))) (PO.of pd_int)) (pssd_one (psd_ret (pd_add (PO.of (pd_add (PO.of (pd_slT (PO.of (pd_var (i := 1))) dp_none (dp_some (pd_var (i := 3))))) (PO.of (pd_var (i := 5))))) (PO.of (pd_slT (PO.of (pd_var (i := 1))) (dp_some (pd_var (i := 3))) dp_none))))) pssd_nil)
    (pssd_cons (psd_if (dt_eqS (PO.of (pd_var (i := 2))) (PO.of pd_int)) (pssd_one (psd_ret (pd_add (PO.of (pd_add (PO.of (pd_slT (PO.of (pd_var (i := 1))) dp_none (dp_some (pd_var (i := 3))))) (PO.of (pd_var (i := 5))))) (PO.of (pd_slT (PO.of (pd_var (i := 1))) (dp_some (pd_add (PO.of (pd_var (i := 3))) (PO.of pd_int))) dp_none))))) pssd_nil)
    (pssd_cons (psd_if (dt_eqS (PO.of (pd_var (i := 2))) (PO.of pd_int)) (pssd_one (psd_ret (pd_join (PO.of pd_str) (PO.of (PD.ofF (pf_cat (PO.of (PD.ofF (pf_slL (PO.of (pd_var (i := 4))) dp_none (dp_some (pd_var (i := 6)))))) (PO.of (PD.ofF (pf_slL (PO.of (pd_var (i := 4))) (dp_some (pd_add (PO.of (pd_var (i := 6))) (PO.of pd_int))) dp_none))))))))) pssd_nil)
    (pssd_cons (psd_if (dt_eqS (PO.of (pd_var (i := 2))) (PO.of pd_int)) (pssd_one (psd_ret (pd_join (PO.of pd_str) (PO.of (PD.ofF (pf_cat (PO.of (PD.ofF (pf_cat (PO.of (PD.ofF (pf_slL (PO.of (pd_var (i := 4))) dp_none (dp_some (pd_var (i := 6)))))) (PO.of (PD.ofF (pf_slL (PO.of (pd_var (i := 4))) (dp_some (pd_var (i := 6))) (dp_some (pd_add (PO.of (pd_var (i := 6))) (PO.of pd_int))))))))) (PO.of (PD.ofF (pf_slL (PO.of (pd_var (i := 4))) (dp_some (pd_var (i := 6))) dp_none))))))))) pssd_nil)
    (pssd_cons (psd_if (dt_eqS (PO.of (pd_var (i := 2))) (PO.of pd_int)) (pssd_one (psd_ret (pd_join (PO.of pd_str) (PO.of (PD.ofF (pf_cat (PO.of (PD.ofF (pf_cat (PO.of (PD.ofF (pf_cat (PO.of (PD.ofF (pf_slL (PO.of (pd_var (i := 4))) dp_none (dp_some (pd_var (i := 6)))))) (PO.of (PD.ofF (pf_slL (PO.of (pd_var (i := 4))) (dp_some (pd_add (PO.of (pd_var (i := 6))) (PO.of pd_int))) (dp_some (pd_add (PO.of (pd_var (i := 6))) (PO.of pd_int))))))))) (PO.of (PD.ofF (pf_slL (PO.of (pd_var (i := 4))) (dp_some (pd_var (i := 6))) (dp_some (pd_add (PO.of (pd_var (i := 6))) (PO.of pd_int))))))))) (PO.of (PD.ofF (pf_slL (PO.of (pd_var (i := 4))) (dp_some (pd_add (PO.of (pd_var (i := 6))) (PO.of pd_int))) dp_none))))))))) pssd_nil)
    (pssd_cons (psd_if (dt_eqS (PO.of (pd_var (i := 2))) (PO.of pd_int)) (pssd_one (psd_ret (pd_add (PO.of (pd_var (i := 1))) (PO.of (pd_call c_Lpick hr hG hx (by rfl) (da_slot (i := 0) (da_cons (PD.ofF (pf_lst (ds_cons pd_str (ds_cons pd_str (ds_cons pd_str (ds_cons pd_str (ds_cons pd_str (ds_cons pd_str (ds_cons pd_str ds_nil))))))))) da_nil))))))) pssd_nil)
    (pssd_cons (psd_set 7 nd (PD.ofF (pf_split (PO.of (pd_ix (PO.of (pd_var (i := 4))) (PO.of (pd_var (i := 6))))) (PO.of pd_str))))
    (pssd_cons (psd_set 8 nd (pd_call c_Ldraw hr hG hx (by rfl) (da_slot (i := 0) (da_cons (pd_len (by rfl) B.len (PO.of (pd_var (i := 7)))) da_nil))))
    (pssd_cons (psd_set 9 nd (pd_add (PO.of (pd_call c_Lpick hr hG hx (by rfl) (da_slot (i := 0) (da_cons (PD.ofF (pf_lst (ds_cons pd_str (ds_cons pd_str (ds_cons pd_str (ds_cons pd_str (ds_cons pd_str (ds_cons pd_str (ds_cons pd_str ds_nil))))))))) da_nil)))) (PO.of (pd_ix (PO.of (pd_var (i := 7))) (PO.of (pd_var (i := 8)))))))
    (pssd_one (psd_ret (pd_join (PO.of pd_str) (PO.of (PD.ofF (pf_cat (PO.of (PD.ofF (pf_cat (PO.of (PD.ofF (pf_slL (PO.of (pd_var (i := 4))) dp_none (dp_some (pd_var (i := 6)))))) (PO.of (PD.ofF (pf_lst (ds_cons (pd_join (PO.of pd_str) (PO.of (PD.ofF (pf_cat (PO.of (PD.ofF (pf_cat (PO.of (PD.ofF (pf_slL (PO.of (pd_var (i := 7))) dp_none (dp_some (pd_var (i := 8)))))) (PO.of (PD.ofF (pf_lst (ds_cons (pd_var (i := 9)) ds_nil))))))) (PO.of (PD.ofF (pf_slL (PO.of (pd_var (i := 7))) (dp_some (pd_add (PO.of (pd_var (i := 8))) (PO.of pd_int))) dp_none))))))) ds_nil))))))) (PO.of (PD.ofF (pf_slL (PO.of (pd_var (i := 4))) (dp_some (pd_add (PO.of (pd_var (i := 6))) (PO.of pd_int))) dp_none)))))))))))))))))))))
theorem tb_lit (x : Str) (h : ∀ c ∈ tl x, c < 2000) (hl : x.length ≤ 10) : TB 10 x := ⟨hl, h⟩
theorem s7 {n : Nat} (h : n ≤ 1000000) : n ≤ sizeLine := Nat.le_trans h (by decide)
theorem TB.fit {n : Nat} {z : Str} (h : TB n z) (hn : n ≤ 1000000) : z.length ≤ sizeLine := s7 (Nat.le_trans h.len hn)
theorem TB.fit2 {n k : Nat} {x y : Str} (h : TB n x) (h' : TB k y) (hn : n + k ≤ 1000000) : x.length + y.length ≤ sizeLine := s7 (by have := h.len; have := h'.len; omega)
theorem LD.fit2 {n k : Nat} {a b : List D} (h : LD n a) (h' : LD k b) (hn : n + k ≤ 1000000) : a.length + b.length ≤ sizeLine := s7 (by have := h.len; have := h'.len; omega)
theorem lits_all : ∀ z ∈ [(" " : Str), "\n", "\n0", "\n\n", " 0", "\ntable 1", "0"], (∀ c ∈ tl z, c < 2000) ∧ z.length ≤ 10 := by decide +kernel
theorem lits_all2 : ∀ z ∈ [("0" : Str), "+", "-", "", " ", "00", "1_"], (∀ c ∈ tl z, c < 2000) ∧ z.length ≤ 10 := by decide +kernel
theorem lits_sig : ∀ c ∈ tl ("0123456789-+ \n_at" : Str), c < 2000 := by decide +kernel
theorem lits_len : (signsD ("0123456789-+ \n_at" : Str)).length = 17 := by decide +kernel
theorem sig_mem {d : D} (h : d ∈ signsD ("0123456789-+ \n_at" : Str)) : ∃ s, d = .str s ∧ TB 1 s := by
  unfold signsD at h
  obtain ⟨c, hc, rfl⟩ := List.mem_map.mp h
  refine ⟨⟨#[c]⟩, rfl, Nat.le_refl 1, fun a ha => ?_⟩
  rw [one_str] at ha
  rw [List.mem_singleton.mp ha]
  exact lits_sig c hc
theorem mem_strs {d : D} {ls : List Str} (h : d ∈ ls.map PyData.str) : ∃ s ∈ ls, d = .str s := by
  obtain ⟨s, hs, rfl⟩ := List.mem_map.mp h
  exact ⟨s, hs, rfl⟩
theorem r_Lbent (px : XP) (as : List DL.Arg) (Q : D → Prop) (h : F_Lbent.run as Q px) : t_Lbent px { nx := fun _ => Q .none, rt := Q } (startD n_Lbent as) := by
  obtain ⟨z, n, rfl, hn, hz, h⟩ := h
  have f1 := hz.fit (by omega)
  have hzl := hz.len
  refine ⟨8, rfl, by decide, by decide, fun way way0 way1 => ⟨f1, (z.length : Int) + 1, rfl, by omega, by omega, fun a a0 a1 => ⟨⟨z, rfl⟩, by decide, s7 (by omega), rfl, ?_⟩⟩⟩
  have hL := LD.split hz (y := nl) (by rw [one_nl]; exact Nat.le_refl _)
  have hp : 1 ≤ ((Txt.split z nl).map PyData.str).length := by rw [List.length_map]; exact split_pos z nl
  show sSeq _ _ _ [.deck, .val (.str z), .val (.int way), .val (.int a), .val (.list ((Txt.split z nl).map PyData.str)), .un, .un, .un, .un, .un]
  generalize (Txt.split z nl).map PyData.str = L at *
  have hll := hL.len
  refine ⟨by decide, _, rfl, by rw [lits_len]; decide, by rw [lits_len]; decide, fun d hd => ?_⟩
  obtain ⟨s, rfl, hs⟩ := sig_mem hd
  refine ⟨(L.length : Int), rfl, by omega, by omega, fun ln ln0 ln1 => ⟨rfl, ?_⟩⟩
  have fin : ∀ {ds : List D} {k : Nat}, LD k ds → k ≤ 5 * n + 20 → gJoin (.str nl) (.list ds) Q := fun hd hk => ld_join one_nl nl_ch hd (by omega) fun z' hz' => h z' (hz'.le hk)
  refine ite_t (b := decide (way = 0)) (fun _ => ?_) (fun _ => ?_)
  · exact ⟨f1, f1, (hz.cut _ _).fit2 (hz.cut _ _) (by omega), h _ (((hz.cut _ _).app (hz.cut _ _)).le (by omega))⟩
  refine ite_t (b := decide (way = 1)) (fun _ => ?_) (fun _ => ?_)
  · exact ⟨f1, (hz.cut _ _).fit2 hs (by omega), f1, ((hz.cut _ _).app hs).fit2 (hz.cut _ _) (by omega), h _ ((((hz.cut _ _).app hs).app (hz.cut _ _)).le (by omega))⟩
  refine ite_t (b := decide (way = 2)) (fun _ => ?_) (fun _ => ?_)
  · exact ⟨f1, (hz.cut _ _).fit2 hs (by omega), f1, ((hz.cut _ _).app hs).fit2 (hz.cut _ _) (by omega), h _ ((((hz.cut _ _).app hs).app (hz.cut _ _)).le (by omega))⟩
  refine ite_t (b := decide (way = 3)) (fun _ => ?_) (fun _ => ?_)
  · exact ⟨⟨_, rfl⟩, (hL.cut _ _).fit2 (hL.cut _ _) (by omega), fin ((hL.cut _ _).app (hL.cut _ _)) (by omega)⟩
  refine ite_t (b := decide (way = 4)) (fun _ => ?_) (fun _ => ?_)
  · exact ⟨⟨_, rfl⟩, (hL.cut _ _).fit2 (hL.cut _ _) (by omega), ((hL.cut _ _).app (hL.cut _ _)).fit2 (hL.cut _ _) (by omega), fin (((hL.cut _ _).app (hL.cut _ _)).app (hL.cut _ _)) (by omega)⟩
  refine ite_t (b := decide (way = 5)) (fun _ => ?_) (fun _ => ?_)
  · exact ⟨⟨_, rfl⟩, (hL.cut _ _).fit2 (hL.cut _ _) (by omega), ((hL.cut _ _).app (hL.cut _ _)).fit2 (hL.cut _ _) (by omega), (((hL.cut _ _).app (hL.cut _ _)).app (hL.cut _ _)).fit2 (hL.cut _ _) (by omega), fin ((((hL.cut _ _).app (hL.cut _ _)).app (hL.cut _ _)).app (hL.cut _ _)) (by omega)⟩
  refine ite_t (b := decide (way = 6)) (fun _ => ?_) (fun _ => ?_)
  · refine ⟨by decide, _, rfl, by decide, by decide, fun d hd => ?_⟩
    have hd : d ∈ [(" " : Str), "\n", "\n0", "\n\n", " 0", "\ntable 1", "0"].map PyData.str := hd
    obtain ⟨s6, hm, rfl⟩ := mem_strs hd
    obtain ⟨k1, k2⟩ := lits_all s6 hm
    exact ⟨hz.fit2 (tb_lit s6 k1 k2) (by omega), h _ ((hz.app (tb_lit s6 k1 k2)).le (by omega))⟩
  obtain ⟨l, el, hl⟩ := hL.at ln0 ln1
  refine ⟨.str l, el, ⟨l, rfl⟩, by decide, s7 (by have := hl.len; omega), ?_⟩
  have hW := LD.split hl (y := sp) (by rw [one_sp]; exact Nat.le_refl _)
  have hpw : 1 ≤ ((Txt.split l sp).map PyData.str).length := by rw [List.length_map]; exact split_pos l sp
  show sSeq _ _ _ [.deck, .val (.str z), .val (.int way), .val (.int a), .val (.list L), .val (.str s), .val (.int ln), .val (.list ((Txt.split l sp).map PyData.str)), .un, .un]
  generalize (Txt.split l sp).map PyData.str = W at *
  have hwl := hW.len
  refine ⟨(W.length : Int), rfl, by omega, by omega, fun sw sw0 sw1 => ?_⟩
  refine ⟨by decide, _, rfl, by decide, by decide, fun d hd => ?_⟩
  have hd : d ∈ [("0" : Str), "+", "-", "", " ", "00", "1_"].map PyData.str := hd
  obtain ⟨s6, hm, rfl⟩ := mem_strs hd
  obtain ⟨k1, k2⟩ := lits_all2 s6 hm
  obtain ⟨w, ew, hw⟩ := hW.at sw0 sw1
  have h6 := tb_lit s6 k1 k2
  refine ⟨.str w, ew, h6.fit2 hw (by omega), ⟨_, rfl⟩, ⟨_, rfl⟩, s7 (by show 1 ≤ 1000000; decide), ?_⟩
  have hw1 := LD.one (h6.app hw)
  refine ⟨(hW.cut _ _).fit2 hw1 (by omega), ((hW.cut _ _).app hw1).fit2 (hW.cut _ _) (by omega), ?_⟩
  refine ld_join one_sp sp_ch (((hW.cut _ _).app hw1).app (hW.cut _ _)) (by omega) fun z2 hz2 => ?_
  have hz3 := LD.one hz2
  exact ⟨s7 (by show 1 ≤ 1000000; decide), (hL.cut _ _).fit2 hz3 (by omega), ((hL.cut _ _).app hz3).fit2 (hL.cut _ _) (by omega), fin (((hL.cut _ _).app hz3).app (hL.cut _ _)) (by omega)⟩
end Z

namespace Z
open PySem PySem.Spec PyProof.Rows L2 DL TL
/-! ### _law_is_read -/
theorem tb_sb {n : Nat} {z : Str} (h : TB n z) : SB (10 * n + 2) 0 (.str z) := ⟨rfl, Nat.le_refl _, by
  have := StrLaws.reprText_len z (fun c hc => Nat.lt_trans (h.ch c hc) (by decide))
  have := h.len
  show (reprText z).length ≤ 10 * n + 2
  omega⟩
theorem row_sb {r : List Int} (h : Rw r) : SB 7239 1 (iTup r) := (sb_tup (n := 601) (e := 0) (ds := r.map PyData.int) fun d hd => by
  obtain ⟨x, hx, rfl⟩ := List.mem_map.mp hd
  exact sb_int ((h.sz x hx).sm.le (by decide))).le (by rw [List.length_map]; have := h.len; omega) (Nat.le_refl _)
theorem tab_sb {m : List (List Int)} {n : Nat} (g : Good m n) : SB 86895 2 (tab m) := (sb_tup (n := 7239) (e := 1) (ds := m.map iTup) fun d hd => by
  obtain ⟨x, hx, rfl⟩ := List.mem_map.mp hd
  exact row_sb (good_rw g x hx)).le (by rw [List.length_map, g.sq.len]; have := g.hi; omega) (Nat.le_refl _)
theorem sb_text : SB 601 0 (.str "text") := ⟨rfl, Nat.le_refl _, by decide +kernel⟩
theorem sb_tableW : SB 601 0 (.str "table") := ⟨rfl, Nat.le_refl _, by decide +kernel⟩
theorem shw2 {x d : D} (hx : SB 601 0 x) {n e : Nat} (hd : SB n e d) (hn : n ≤ 7000000) (he : e ≤ 50) : Shw (.tuple [x, d]) :=
  (sb_pair hx (hd.le (n' := max n 601) (by omega) (Nat.le_refl _)) (by omega)).shw (by omega) (by omega)
/-- what is read of a value -/
def ReadOf (d a : D) : Prop := (isa d "str" = false ∧ a = .tuple [.str "text", .int 0]) ∨ ∃ z, d = .str z ∧ z.length ≤ 1000000 ∧ Okz z ∧ a = resD (readP z)
theorem told_rd {P : D → Prop} {d a : D} (h : ReadOf d a) (k : P a) : F_read_table.run [.dat d] (fun d => P (.tuple [.str "told", d])) (fun c nm d => ∃ s1, (c, nm, s1) ∈ LCl ∧ P (.tuple [.str s1, d])) := by
  refine ⟨d, rfl, ?_⟩
  rcases h with ⟨h1, rfl⟩ | ⟨z, rfl, h1, h2, rfl⟩
  · exact .inl ⟨h1, "text", List.mem_cons_self, k⟩
  · refine .inr ⟨z, rfl, h1, h2, ?_⟩
    cases e : readP z with
    | inl rs => rw [e] at k; exact k
    | inr n => rw [e] at k; exact ⟨"text", List.mem_cons_self, k⟩
theorem lread_rd {P : D → Prop} {d a : D} (h : ReadOf d a) (k : P a) {px : XP} : F_Lread.run [.dat d] P px := by
  refine ⟨d, rfl, ?_⟩
  rcases h with ⟨h1, rfl⟩ | ⟨z, rfl, h1, h2, rfl⟩
  · exact .inl ⟨h1, k⟩
  · exact .inr ⟨z, rfl, h1, h2, k⟩
structure RdIn (d : D) : Prop where
  ok : isa d "str" = false ∨ ∃ z, d = .str z ∧ TB 200000 z ∧ Okz z
/-- either an error, or a table whose text it was -/
theorem read_cases {d : D} (h : RdIn d) : ∃ a, ReadOf d a ∧ ((∃ i : Int, a = .tuple [.str "text", .int i] ∧ Sd i) ∨ ∃ m n z, a = .tuple [.str "told", tab m] ∧ Good m n ∧ d = .str z ∧ TB 200000 z ∧ txt m = z) := by
  rcases h.ok with h1 | ⟨z, rfl, h1, h2⟩
  · exact ⟨_, .inl ⟨h1, rfl⟩, .inl ⟨0, rfl, Sd.zero⟩⟩
  · refine ⟨_, .inr ⟨z, rfl, Nat.le_trans h1.len (by decide), h2, rfl⟩, ?_⟩
    have bound : ∀ n, readP z = .inr n → Sd (n : Int) := fun n e => by
      have : ∀ {ls : List Str} {c : Nat} {acc : List (List Int)} {n : Nat}, rowsA ls acc c = .inr n → n ≤ acc.length + c + 2 := by
        intro ls
        induction ls with
        | nil =>
          intro c acc n e
          cases c with
          | zero => cases e
          | succ c => cases e; omega
        | cons l ls ih =>
          intro c acc n e
          cases c with
          | zero => cases e; omega
          | succ c =>
            unfold rowsA at e
            cases er : rowOf l (acc.length + 1) with
            | none => rw [er] at e; cases e; omega
            | some r =>
              rw [er] at e
              have := ih e
              rw [List.length_append] at this
              have e1 : [r].length = 1 := rfl
              omega
      unfold readP at e
      generalize Txt.split z nl = L at e
      cases L with
      | nil => cases e; exact nat_sd (by omega)
      | cons l ls =>
        have e : (match hdr l with
          | none => .inr 1
          | some n => rowsA ls [] n : List (List Int) ⊕ Nat) = .inr n := e
        cases eh : hdr l with
        | none => rw [eh] at e; cases e; exact nat_sd (by omega)
        | some k =>
          rw [eh] at e
          have := this e
          obtain ⟨k1, k2, _⟩ := hdrF_spec eh
          have e0 : ([] : List (List Int)).length = 0 := rfl
          exact nat_sd (by omega)
    cases e : readP z with
    | inr n => exact .inl ⟨_, rfl, bound n e⟩
    | inl rs =>
      refine .inr ?_
      rcases h2 with h2 | ⟨l, ls, e1, e2⟩
      · obtain ⟨t, e3⟩ := read_back e h2
        exact ⟨symT rs, rs.length, z, rfl, symT_good t, rfl, h1, e3⟩
      · unfold readP at e
        rw [e1] at e
        have e : (match hdr l with
          | none => .inr 1
          | some n => rowsA ls [] n : List (List Int) ⊕ Nat) = .inl rs := e
        rw [e2] at e
        cases e
def F_Lis_read : FD := ⟨fun as P _ => ∃ (d : D) (w : Int), as = [.dat d, .dat (.int w)] ∧ RdIn d ∧ P (.bool true), fun as P P' Z Z' k _ ⟨d, w, e, h1, h⟩ => ⟨d, w, e, h1, k _ h⟩⟩
/-! _law_is_read -/
abbrev s_Lis_read : Stmt := top 31
abbrev n_Lis_read : List Str := ["_law_text_here", "_law_way", "_law_told_here"]
theorem sc_Lis_read : FnScope n_Lis_read ["_law_text_here", "_law_way"] (defScope s_Lis_read) := ⟨rfl, rfl, rfl, by decide +kernel, rfl, by decide +kernel, by decide +kernel⟩
def t_Lis_read (px : XP) : TSD :=
  (sSeq (sSet 2 (tToldM (fun px => (tIfD (tTestD (dBi (gEqS false) (tValD 1) (tCD (.int 0)))) (tCallD F_read_table px (aCons (tValD 0) aNil)) (tCallK F_read_table px [0] (lCons (tValD 0) lNil)))) LCl "told"))
    (sSeq (sIf (tTestD (dBi (gEqS true) (dUn gRepr (tValD 2)) (dUn gRepr (tCallD F_Lread px (aCons (tValD 0) aNil))))) (sRet (tCD (.bool false))) sNext)
    (sRet (tOrV (dBi (gEqS true) (dBi gIx (tValD 2) (tCD (.int 0))) (tCD (.str "told"))) (dBi (gEqS false) (dUn gRepr (tToldM (fun px => (tCallD F_text_of px (aCons (dBi gIx (tValD 2) (tCD (.int 1))) aNil))) LCl "told")) (dUn gRepr (dTup (lCons (tCD (.str "told")) (lCons (tValD 0) lNil)))))))))
set_option maxHeartbeats 4000000 in
theorem d_Lis_read {P : Program} {w : World} {K : PySem.W.Frag} {mg : Str → Option Value} {base : Heap} {k : Nat} (B : Blt3 mg) {f : Addr} {cdv : Value} {A : Around} {outer : List Env} {s : Shared} {H : Hp} {E : XK} {C : Ct} {px : XP}
    (hr : Room k (A.deeper (envOfC "_law_is_read" (defScope s_Lis_read) s.heap.objs.size f cdv))) (hG : NoGu (A.deeper (envOfC "_law_is_read" (defScope s_Lis_read) s.heap.objs.size f cdv))) (hx : XO (cxOf (L2.CX P w) P w K mg base n_Lis_read "_law_is_read" (defScope s_Lis_read) f cdv A outer s H E) C px (L2.CX P w) E) (l_read_table : Cal Tru P w K mg base (k - 2) "read_table" ["text"] C.q.w F_read_table) (l_text_of : Cal Tru P w K mg base (k - 2) "text_of" ["table"] C.q.w F_text_of) (q_read_table : CalK Tru P w K mg base (k - 2) "read_table" ["text"] ["text"] [0] C.q.w F_read_table) (hk2 : 2 ≤ k) (TO : TOF K mg) {cc PP : Addr} (LF : LamF mg base C.q.w (("_law_is_read" : Str) ++ ".<locals>.") cdv cc PP) (c_Lread : Cal NoGu P w K mg base k "_law_read" ["_law_text_here"] C.q.w F_Lread) :
    PSDs (cxOf (L2.CX P w) P w K mg base n_Lis_read "_law_is_read" (defScope s_Lis_read) f cdv A outer s H E) C (defBody s_Lis_read) (t_Lis_read px) :=
  have nd := sc_Lis_read.nd
  (pssd_cons (psd_set 2 nd (pd_toldMZ TO LF hr hk2 (tb := fun px => (tIfD (tTestD (dBi (gEqS false) (tValD 1) (tCD (.int 0)))) (tCallD F_read_table px (aCons (tValD 0) aNil)) (tCallK F_read_table px [0] (lCons (tValD 0) lNil)))) (by rfl) (LamX.lamS_by (sc := defScope s_Lis_read) (by decide +kernel)) (by rfl) (fun _ _ _ _ _ => rfl) (fun A outer s H E f c C2 px hq hr hx => (pd_ifE (dt_eqS (PO.of (pd_var (i := 1))) (PO.of pd_int)) (pd_call (hq ▸ l_read_table) hr True.intro hx (by rfl) (da_cons (pd_var (i := 0)) da_nil)) (pd_callK (hq ▸ q_read_table) hr True.intro hx (by rfl) (dq_cons (pd_var (i := 0)) dq_nil)))) (xm_if (mo_test (mo_bi mo_gEqS (mo_val 1) (mo_c _))) (xm_call' (mo_acons (mo_val 0) mo_anil)) (xm_callK (mo_lcons (mo_val 0) mo_lnil))) (fun px => (show MonoE (tIfD (tTestD (dBi (gEqS false) (tValD 1) (tCD (.int 0)))) (tCallD F_read_table px (aCons (tValD 0) aNil)) (tCallK F_read_table px [0] (lCons (tValD 0) lNil))) from (mo_if (mo_test (mo_bi mo_gEqS (mo_val 1) (mo_c _))) (mo_call (mo_acons (mo_val 0) mo_anil)) (mo_callK (mo_lcons (mo_val 0) mo_lnil)))))))
    (pssd_cons (psd_if (dt_neS (PO.of (pd_repr hG (room_u hr) (by rfl) B.repr (PO.of (pd_var (i := 2))))) (PO.of (pd_repr hG (room_u hr) (by rfl) B.repr (PO.of (pd_call c_Lread hr hG hx (by rfl) (da_cons (pd_var (i := 0)) da_nil)))))) (pssd_one (psd_ret pd_bl)) pssd_nil)
    (pssd_one (psd_ret (pd_or (pd_neS (PO.of (pd_ix (PO.of (pd_var (i := 2))) (PO.of pd_int))) (PO.of pd_str)) (pd_one (pd_eqS (PO.of (pd_repr hG (room_u hr) (by rfl) B.repr (PO.of (pd_toldMZ TO LF hr hk2 (tb := fun px => (tCallD F_text_of px (aCons (dBi gIx (tValD 2) (tCD (.int 1))) aNil))) (by rfl) (LamX.lamS_by (sc := defScope s_Lis_read) (by decide +kernel)) (by rfl) (fun _ _ _ _ _ => rfl) (fun A outer s H E f c C2 px hq hr hx => (pd_call (hq ▸ l_text_of) hr True.intro hx (by rfl) (da_cons (pd_ix (PO.of (pd_var (i := 2))) (PO.of pd_int)) da_nil))) (xm_call' (mo_acons (mo_bi mo_gIx (mo_val 2) (mo_c _)) mo_anil)) (fun px => (show MonoE (tCallD F_text_of px (aCons (dBi gIx (tValD 2) (tCD (.int 1))) aNil)) from (mo_call (mo_acons (mo_bi mo_gIx (mo_val 2) (mo_c _)) mo_anil)))))))) (PO.of (pd_repr hG (room_u hr) (by rfl) B.repr (PO.of (pd_tup (ds_cons pd_str (ds_cons (pd_var (i := 0)) ds_nil)))))))))))))
theorem eq_same {P : Bool → Prop} {x : Str} (h : P false) : P (!decide (x = x)) := by rw [decide_eq_true rfl]; exact h
theorem eq_same2 {P : Bool → Prop} {x : Str} (h : P true) : P (decide (x = x)) := by rw [decide_eq_true rfl]; exact h
def t_ird2 (px : XP) : TSD := (sSeq (sIf (tTestD (dBi (gEqS true) (dUn gRepr (tValD 2)) (dUn gRepr (tCallD F_Lread px (aCons (tValD 0) aNil))))) (sRet (tCD (.bool false))) sNext)
    (sRet (tOrV (dBi (gEqS true) (dBi gIx (tValD 2) (tCD (.int 0))) (tCD (.str "told"))) (dBi (gEqS false) (dUn gRepr (tToldM (fun px => (tCallD F_text_of px (aCons (dBi gIx (tValD 2) (tCD (.int 1))) aNil))) LCl "told")) (dUn gRepr (dTup (lCons (tCD (.str "told")) (lCons (tValD 0) lNil))))))))
theorem ird2 {px : XP} {Q : D → Prop} {d : D} {o1 : Slot} {x y : D} (hr : ReadOf d (.tuple [x, y])) (hs : Shw (.tuple [x, y]))
    (k : (sRet (tOrV (dBi (gEqS true) (dBi gIx (tValD 2) (tCD (.int 0))) (tCD (.str "told"))) (dBi (gEqS false) (dUn gRepr (tToldM (fun px => (tCallD F_text_of px (aCons (dBi gIx (tValD 2) (tCD (.int 1))) aNil))) LCl "told")) (dUn gRepr (dTup (lCons (tCD (.str "told")) (lCons (tValD 0) lNil))))))) { nx := fun _ => Q .none, rt := Q } [.val d, o1, .val (.tuple [x, y])]) :
    t_ird2 px { nx := fun _ => Q .none, rt := Q } [.val d, o1, .val (.tuple [x, y])] := by
  refine ⟨hs, ?_⟩
  refine lread_rd hr ⟨hs, ?_⟩
  exact eq_same (P := fun b => if b = true then _ else _) k
theorem text_ne : ¬ (("text" : Str)) = "told" := by decide +kernel
theorem or_row {s : Str} {y : D} {o0 o1 : Slot} {tb : TED} {Q : D → Prop} (h1 : ¬ s = "told" → Q (.bool true)) (h2 : s = "told" → tb [o0, o1, .val (.tuple [.str s, y])] Q) :
    sRet (tOrV (dBi (gEqS true) (dBi gIx (tValD 2) (tCD (.int 0))) (tCD (.str "told"))) tb) { nx := fun _ => Q .none, rt := Q } [o0, o1, .val (.tuple [.str s, y])] :=
  ⟨.str s, L2.atI_nat (j := 0) rfl, ite_t (b := !decide (s = "told")) (fun e => h1 fun z => by rw [decide_eq_true z] at e; cases e) (fun e => h2 (of_decide_eq_true (bnot e)))⟩
theorem ird3 {Q : D → Prop} {d : D} {o1 : Slot} {i : Int} (h : Q (.bool true)) :
    (sRet (tOrV (dBi (gEqS true) (dBi gIx (tValD 2) (tCD (.int 0))) (tCD (.str "told"))) (dBi (gEqS false) (dUn gRepr (tToldM (fun px => (tCallD F_text_of px (aCons (dBi gIx (tValD 2) (tCD (.int 1))) aNil))) LCl "told")) (dUn gRepr (dTup (lCons (tCD (.str "told")) (lCons (tValD 0) lNil))))))) { nx := fun _ => Q .none, rt := Q } [.val d, o1, .val (.tuple [.str "text", .int i])] := by
  exact or_row (fun _ => h) (fun e => absurd e text_ne)
theorem ird4 {Q : D → Prop} {o1 : Slot} {m : List (List Int)} {n : Nat} {z : Str} (g : Good m n) (hz : TB 200000 z) (e : txt m = z) (h : Q (.bool true)) :
    (sRet (tOrV (dBi (gEqS true) (dBi gIx (tValD 2) (tCD (.int 0))) (tCD (.str "told"))) (dBi (gEqS false) (dUn gRepr (tToldM (fun px => (tCallD F_text_of px (aCons (dBi gIx (tValD 2) (tCD (.int 1))) aNil))) LCl "told")) (dUn gRepr (dTup (lCons (tCD (.str "told")) (lCons (tValD 0) lNil))))))) { nx := fun _ => Q .none, rt := Q } [.val (.str z), o1, .val (.tuple [.str "told", tab m])] := by
  have hS : Shw (.tuple [.str "told", .str z]) := shw2 sb_told (tb_sb hz) (by decide) (by decide)
  refine or_row (fun z => absurd rfl z) (fun _ => ?_)
  refine ⟨tab m, L2.atI_nat (j := 1) rfl, tab m, rfl, .inl ⟨m, n, rfl, g, ?_⟩⟩
  rw [e]
  refine ⟨hS, ?_⟩
  refine ⟨s12 (by show 2 ≤ 1000; decide), hS, ?_⟩
  exact eq_same2 (P := fun b => Q (.bool b)) h
theorem r_Lis_read (px : XP) (as : List DL.Arg) (Q : D → Prop) (h : F_Lis_read.run as Q px) : t_Lis_read px { nx := fun _ => Q .none, rt := Q } (startD n_Lis_read as) := by
  obtain ⟨d, w, rfl, hd, h⟩ := h
  obtain ⟨a, hr, ha⟩ := read_cases hd
  have go : t_ird2 px { nx := fun _ => Q .none, rt := Q } [.val d, .val (.int w), .val a] := by
    rcases ha with ⟨i, rfl, hi⟩ | ⟨m, n, z, rfl, g, rfl, hz, e⟩
    · exact ird2 hr (shw2 sb_text (sb_int (hi.sm.le (by decide))) (by decide) (by decide)) (ird3 h)
    · exact ird2 hr (shw2 sb_told (tab_sb g) (by decide) (by decide)) (ird4 g hz e h)
  exact ite_t (b := decide (w = 0)) (fun _ => told_rd (P := fun a => t_ird2 px { nx := fun _ => Q .none, rt := Q } [.val d, .val (.int w), .val a]) hr go) (fun _ => told_rd (P := fun a => t_ird2 px { nx := fun _ => Q .none, rt := Q } [.val d, .val (.int w), .val a]) hr go)
end Z

namespace Z
open PySem PySem.Spec PyProof.Rows L2 DL TL
/-! ### law -/
/-! law -/
abbrev s_law : Stmt := top 32
abbrev n_law : List Str := ["_law_script", "_law_deck_here", "_law_turn", "_law_own", "_law_way", "_law_text_here", "_law_told_here", "_law_near", "_law_bent_here", "_law_thing", "_law_head", "_law_bad", "_law_wrong"]
theorem sc_law : FnScope n_law ["_law_script"] (defScope s_law) := ⟨rfl, rfl, rfl, by decide +kernel, rfl, by decide +kernel, by decide +kernel⟩
def t_law (px : XP) : TSD :=
  (sSeq (sFor (iR1 (tCD (.int 4))) (.nm 2) (sSeq (sSet 3 (tCallD F_Ldrawn px (aSlot 1 (aCons (dBi gAdd (tCD (.int 1)) (tCallD F_Ldraw px (aSlot 1 (aCons (tIfD (tTestD (dBi (gEqS false) (tCallD F_Ldraw px (aSlot 1 (aCons (tCD (.int 3)) aNil))) (tCD (.int 0)))) (tCD (.int 12)) (tCD (.int 4))) aNil)))) aNil))))
    (sSeq (sAsg (.tup [4, 5]) (dTup (lCons (dBi gAnd (tValD 2) (tCD (.int 1))) (lCons (tCallD F_Ltext px (aCons (tValD 3) aNil)) lNil))))
    (sSeq (sSet 6 (tToldM (fun px => (tIfD (tTestD (dBi (gEqS false) (tValD 4) (tCD (.int 0)))) (tCallD F_text_of px (aCons (tValD 3) aNil)) (tCallK F_text_of px [0] (lCons (tValD 3) lNil)))) LCl "told"))
    (sSeq (sIf (tOrD (tTestD (dBi (gEqS true) (dUn gRepr (tValD 6)) (dUn gRepr (dTup (lCons (tCD (.str "told")) (lCons (tValD 5) lNil)))))) (tNotD (tTestD (tCallD F_Lis_read px (aCons (tValD 5) (aCons (tValD 4) aNil)))))) (sRet (tCD (.bool false))) sNext)
    (sSeq (sFor (iR1 (tCD (.int 5))) (.nm 7) (sSeq (sSet 8 (tCallD F_Lbent px (aSlot 1 (aCons (tValD 5) aNil))))
    (sSeq (sSet 8 (tIfD (tTestD (dBi (gEqS false) (tCallD F_Ldraw px (aSlot 1 (aCons (tCD (.int 3)) aNil))) (tCD (.int 0)))) (tCallD F_Lbent px (aSlot 1 (aCons (tValD 8) aNil))) (tValD 8)))
    (sIf (tAndD (tNotD (tTestD (tCallD F_Lis_long px (aCons (tValD 8) aNil)))) (tNotD (tTestD (tCallD F_Lis_read px (aCons (tValD 8) (aCons (tValD 4) aNil)))))) (sRet (tCD (.bool false))) sNext))))
    (sSeq (sSet 9 (tCallD F_Lpick px (aSlot 1 (aCons (dLst (lCons (tCD .none) (lCons (tCD (.int 0)) (lCons (tCD (.bool true)) (lCons (dTup (lCons (tValD 5) lNil)) (lCons (dLst (lCons (tValD 5) lNil)) (lCons (dDict (kCons (.inr "text") (tValD 5) kNil)) (lCons (tValD 3) (lCons (dM1 gSplit (tValD 5) (tCD (.str "\n"))) (lCons (dUn gNeg (tCD (.int 1))) lNil)))))))))) aNil))))
    (sSeq (sIf (tNotD (tTestD (tCallD F_Lis_read px (aCons (tValD 9) (aCons (tValD 4) aNil))))) (sRet (tCD (.bool false))) sNext)
    (sSeq (sSet 10 (tCallD F_Lpick px (aSlot 1 (aCons (dLst (lCons (tCD (.str "")) (lCons (tCD (.str "table")) (lCons (tCD (.str "table ")) (lCons (tCD (.str "table 0")) (lCons (tCD (.str "table 13")) (lCons (tCD (.str "table 01")) (lCons (tCD (.str "Table 1")) (lCons (tCD (.str "table 1 ")) (lCons (tCD (.str "table -1")) (lCons (dBi gAdd (tCD (.str "\n")) (tValD 5)) lNil))))))))))) aNil))))
    (sSeq (sIf (tNotD (tTestD (tCallD F_Lis_read px (aCons (dBi gAdd (tValD 10) (tCallD F_Lpick px (aSlot 1 (aCons (dLst (lCons (tCD (.str "")) (lCons (tCD (.str "\n0")) (lCons (tCD (.str "\n")) lNil)))) aNil)))) (aCons (dBi gSub (tCD (.int 1)) (tValD 4)) aNil))))) (sRet (tCD (.bool false))) sNext)
    (sSeq (sSet 11 (tCallD F_Lpick px (aSlot 1 (aCons (dLst (lCons (dUn gList (tValD 3)) (lCons (dSl gSlT (tValD 3) (oSome (tCD (.int 1))) oNone) (lCons (dBi gAdd (dTup (lCons (dUn gList (dBi gIx (tValD 3) (tCD (.int 0)))) lNil)) (dSl gSlT (tValD 3) (oSome (tCD (.int 1))) oNone)) (lCons (tCD .none) (lCons (dTup lNil) (lCons (tCD (.int 0)) (lCons (dTup (lCons (dTup (lCons (tCD (.bool true)) lNil)) lNil)) (lCons (tValD 5) (lCons (dTup (lCons (dTup (lCons (tCD (.int 0)) (lCons (tCD (.int 1)) lNil))) (lCons (dTup (lCons (tCD (.int 2)) (lCons (tCD (.int 0)) lNil))) lNil))) lNil)))))))))) aNil))))
    (sFor (iT (dTup (lCons (tValD 11) (lCons (dBi gRepT (dTup (lCons (dBi gRepT (dTup (lCons (tCD (.int 0)) lNil)) (tCD (.int 13))) lNil)) (tCD (.int 13))) lNil)))) (.nm 12) (sSeq (sSet 6 (tToldM (fun px => (tIfD (tTestD (dBi (gEqS false) (tValD 4) (tCD (.int 0)))) (tCallD F_text_of px (aCons (tValD 12) aNil)) (tCallK F_text_of px [0] (lCons (tValD 12) lNil)))) LCl "told"))
    (sIf (tTestD (dBi (gEqS true) (dUn gRepr (tValD 6)) (dUn gRepr (dTup (lCons (tCD (.str "table")) (lCons (tValD 12) lNil)))))) (sRet (tCD (.bool false))) sNext))))))))))))))
    (sRet (tCD (.bool true))))
set_option maxHeartbeats 4000000 in
theorem d_law {P : Program} {w : World} {K : PySem.W.Frag} {mg : Str → Option Value} {base : Heap} {k : Nat} (B : Blt3 mg) {f : Addr} {cdv : Value} {A : Around} {outer : List Env} {s : Shared} {H : Hp} {E : XK} {C : Ct} {px : XP}
    (hr : Room k (A.deeper (envOfC "law" (defScope s_law) s.heap.objs.size f cdv))) (hG : NoGu (A.deeper (envOfC "law" (defScope s_law) s.heap.objs.size f cdv))) (hx : XO (cxOf (L2.CX P w) P w K mg base n_law "law" (defScope s_law) f cdv A outer s H E) C px (L2.CX P w) E) (l_text_of : Cal Tru P w K mg base (k - 2) "text_of" ["table"] C.q.w F_text_of) (q_text_of : CalK Tru P w K mg base (k - 2) "text_of" ["table"] ["table"] [0] C.q.w F_text_of) (hk2 : 2 ≤ k) (TO : TOF K mg) {cc PP : Addr} (LF : LamF mg base C.q.w (("law" : Str) ++ ".<locals>.") cdv cc PP) (c_Ldrawn : Cal NoGu P w K mg base k "_law_drawn" ["_law_deck_here", "_law_n"] C.q.w F_Ldrawn) (c_Ldraw : Cal NoGu P w K mg base k "_law_draw" ["_law_deck_here", "_law_many"] C.q.w F_Ldraw) (c_Ltext : Cal NoGu P w K mg base k "_law_text" ["_law_own"] C.q.w F_Ltext) (c_Lis_read : Cal NoGu P w K mg base k "_law_is_read" ["_law_text_here", "_law_way"] C.q.w F_Lis_read) (c_Lbent : Cal NoGu P w K mg base k "_law_bent" ["_law_deck_here", "_law_text_here"] C.q.w F_Lbent) (c_Lis_long : Cal NoGu P w K mg base k "_law_is_long" ["_law_text_here"] C.q.w F_Lis_long) (c_Lpick : Cal NoGu P w K mg base k "_law_pick" ["_law_deck_here", "_law_some"] C.q.w F_Lpick) :
    PSDs (cxOf (L2.CX P w) P w K mg base n_law "law" (defScope s_law) f cdv A outer s H E) C ((defBody s_law).drop 1) (t_law px) :=
  have nd := sc_law.nd
  (pssd_cons (psd_for (.nm 2) own_of rfl (di_range1 (by rfl) B.range pd_int) (pg_name (i := 2) nd rfl (.inl rfl)) (pssd_cons (psd_set 3 nd (pd_call c_Ldrawn hr hG hx (by rfl) (da_slot (i := 1) (da_cons (pd_add (PO.of pd_int) (PO.of (pd_call c_Ldraw hr hG hx (by rfl) (da_slot (i := 1) (da_cons (pd_ifE (dt_eqS (PO.of (pd_call c_Ldraw hr hG hx (by rfl) (da_slot (i := 1) (da_cons pd_int da_nil)))) (PO.of pd_int)) pd_int pd_int) da_nil))))) da_nil))))
    (pssd_cons (psd_asg (.tup [4, 5]) (pd_tup (ds_cons (pd_and_i (PO.of (pd_var (i := 2))) (PO.of pd_int)) (ds_cons (pd_call c_Ltext hr hG hx (by rfl) (da_cons (pd_var (i := 3)) da_nil)) ds_nil))) (pg_tup rfl (pgs_cons (pg_name (i := 4) nd rfl (.inr rfl)) (pgs_cons (pg_name (i := 5) nd rfl (.inl rfl)) pgs_nil))))
    (pssd_cons (psd_set 6 nd (pd_toldMZ TO LF hr hk2 (tb := fun px => (tIfD (tTestD (dBi (gEqS false) (tValD 4) (tCD (.int 0)))) (tCallD F_text_of px (aCons (tValD 3) aNil)) (tCallK F_text_of px [0] (lCons (tValD 3) lNil)))) (by rfl) (LamX.lamS_by (sc := defScope s_law) (by decide +kernel)) (by rfl) (fun _ _ _ _ _ => rfl) (fun A outer s H E f c C2 px hq hr hx => (pd_ifE (dt_eqS (PO.of (pd_var (i := 4))) (PO.of pd_int)) (pd_call (hq ▸ l_text_of) hr True.intro hx (by rfl) (da_cons (pd_var (i := 3)) da_nil)) (pd_callK (hq ▸ q_text_of) hr True.intro hx (by rfl) (dq_cons (pd_var (i := 3)) dq_nil)))) (xm_if (mo_test (mo_bi mo_gEqS (mo_val 4) (mo_c _))) (xm_call' (mo_acons (mo_val 3) mo_anil)) (xm_callK (mo_lcons (mo_val 3) mo_lnil))) (fun px => (show MonoE (tIfD (tTestD (dBi (gEqS false) (tValD 4) (tCD (.int 0)))) (tCallD F_text_of px (aCons (tValD 3) aNil)) (tCallK F_text_of px [0] (lCons (tValD 3) lNil))) from (mo_if (mo_test (mo_bi mo_gEqS (mo_val 4) (mo_c _))) (mo_call (mo_acons (mo_val 3) mo_anil)) (mo_callK (mo_lcons (mo_val 3) mo_lnil)))))))
    (pssd_cons (psd_if (dt_bool (dw_or (dt_neS (PO.of (pd_repr hG (room_u hr) (by rfl) B.repr (PO.of (pd_var (i := 6))))) (PO.of (pd_repr hG (room_u hr) (by rfl) B.repr (PO.of (pd_tup (ds_cons pd_str (ds_cons (pd_var (i := 5)) ds_nil))))))) (dw_or1 (dt_not (dt_val (pd_call c_Lis_read hr hG hx (by rfl) (da_cons (pd_var (i := 5)) (da_cons (pd_var (i := 4)) da_nil)))))))) (pssd_one (psd_ret pd_bl)) pssd_nil)
    (pssd_cons (psd_for (.nm 7) own_of rfl (di_range1 (by rfl) B.range pd_int) (pg_name (i := 7) nd rfl (.inl rfl)) (pssd_cons (psd_set 8 nd (pd_call c_Lbent hr hG hx (by rfl) (da_slot (i := 1) (da_cons (pd_var (i := 5)) da_nil))))
    (pssd_cons (psd_set 8 nd (pd_ifE (dt_eqS (PO.of (pd_call c_Ldraw hr hG hx (by rfl) (da_slot (i := 1) (da_cons pd_int da_nil)))) (PO.of pd_int)) (pd_call c_Lbent hr hG hx (by rfl) (da_slot (i := 1) (da_cons (pd_var (i := 8)) da_nil))) (pd_var (i := 8))))
    (pssd_one (psd_if (dt_bool (dw_and (dt_not (dt_val (pd_call c_Lis_long hr hG hx (by rfl) (da_cons (pd_var (i := 8)) da_nil)))) (dw_and1 (dt_not (dt_val (pd_call c_Lis_read hr hG hx (by rfl) (da_cons (pd_var (i := 8)) (da_cons (pd_var (i := 4)) da_nil)))))))) (pssd_one (psd_ret pd_bl)) pssd_nil)))))
    (pssd_cons (psd_set 9 nd (pd_call c_Lpick hr hG hx (by rfl) (da_slot (i := 1) (da_cons (PD.ofF (pf_lst (ds_cons pd_non (ds_cons pd_int (ds_cons pd_bl (ds_cons (pd_tup (ds_cons (pd_var (i := 5)) ds_nil)) (ds_cons (PD.ofF (pf_lst (ds_cons (pd_var (i := 5)) ds_nil))) (ds_cons (pd_dict (dk_s (pd_var (i := 5)) dk_nil)) (ds_cons (pd_var (i := 3)) (ds_cons (PD.ofF (pf_split (PO.of (pd_var (i := 5))) (PO.of pd_str))) (ds_cons (pd_neg (PO.of pd_int)) ds_nil))))))))))) da_nil))))
    (pssd_cons (psd_if (dt_not (dt_val (pd_call c_Lis_read hr hG hx (by rfl) (da_cons (pd_var (i := 9)) (da_cons (pd_var (i := 4)) da_nil))))) (pssd_one (psd_ret pd_bl)) pssd_nil)
    (pssd_cons (psd_set 10 nd (pd_call c_Lpick hr hG hx (by rfl) (da_slot (i := 1) (da_cons (PD.ofF (pf_lst (ds_cons pd_str (ds_cons pd_str (ds_cons pd_str (ds_cons pd_str (ds_cons pd_str (ds_cons pd_str (ds_cons pd_str (ds_cons pd_str (ds_cons pd_str (ds_cons (pd_add (PO.of pd_str) (PO.of (pd_var (i := 5)))) ds_nil)))))))))))) da_nil))))
    (pssd_cons (psd_if (dt_not (dt_val (pd_call c_Lis_read hr hG hx (by rfl) (da_cons (pd_add (PO.of (pd_var (i := 10))) (PO.of (pd_call c_Lpick hr hG hx (by rfl) (da_slot (i := 1) (da_cons (PD.ofF (pf_lst (ds_cons pd_str (ds_cons pd_str (ds_cons pd_str ds_nil))))) da_nil))))) (da_cons (pd_sub (PO.of pd_int) (PO.of (pd_var (i := 4)))) da_nil))))) (pssd_one (psd_ret pd_bl)) pssd_nil)
    (pssd_cons (psd_set 11 nd (pd_call c_Lpick hr hG hx (by rfl) (da_slot (i := 1) (da_cons (PD.ofF (pf_lst (ds_cons (PD.ofF (pf_list (by rfl) B.list (PO.of (pd_var (i := 3))))) (ds_cons (pd_slT (PO.of (pd_var (i := 3))) (dp_some pd_int) dp_none) (ds_cons (pd_add (PO.of (pd_tup (ds_cons (PD.ofF (pf_list (by rfl) B.list (PO.of (pd_ix (PO.of (pd_var (i := 3))) (PO.of pd_int))))) ds_nil))) (PO.of (pd_slT (PO.of (pd_var (i := 3))) (dp_some pd_int) dp_none))) (ds_cons pd_non (ds_cons (pd_tup ds_nil) (ds_cons pd_int (ds_cons (pd_tup (ds_cons (pd_tup (ds_cons pd_bl ds_nil)) ds_nil)) (ds_cons (pd_var (i := 5)) (ds_cons (pd_tup (ds_cons (pd_tup (ds_cons pd_int (ds_cons pd_int ds_nil))) (ds_cons (pd_tup (ds_cons pd_int (ds_cons pd_int ds_nil))) ds_nil))) ds_nil))))))))))) da_nil))))
    (pssd_one (psd_for (.nm 12) own_of rfl (di_tup (pd_tup (ds_cons (pd_var (i := 11)) (ds_cons (pd_repT (PO.of (pd_tup (ds_cons (pd_repT (PO.of (pd_tup (ds_cons pd_int ds_nil))) (PO.of pd_int)) ds_nil))) (PO.of pd_int)) ds_nil)))) (pg_name (i := 12) nd rfl (.inr rfl)) (pssd_cons (psd_set 6 nd (pd_toldMZ TO LF hr hk2 (tb := fun px => (tIfD (tTestD (dBi (gEqS false) (tValD 4) (tCD (.int 0)))) (tCallD F_text_of px (aCons (tValD 12) aNil)) (tCallK F_text_of px [0] (lCons (tValD 12) lNil)))) (by rfl) (LamX.lamS_by (sc := defScope s_law) (by decide +kernel)) (by rfl) (fun _ _ _ _ _ => rfl) (fun A outer s H E f c C2 px hq hr hx => (pd_ifE (dt_eqS (PO.of (pd_var (i := 4))) (PO.of pd_int)) (pd_call (hq ▸ l_text_of) hr True.intro hx (by rfl) (da_cons (pd_var (i := 12)) da_nil)) (pd_callK (hq ▸ q_text_of) hr True.intro hx (by rfl) (dq_cons (pd_var (i := 12)) dq_nil)))) (xm_if (mo_test (mo_bi mo_gEqS (mo_val 4) (mo_c _))) (xm_call' (mo_acons (mo_val 12) mo_anil)) (xm_callK (mo_lcons (mo_val 12) mo_lnil))) (fun px => (show MonoE (tIfD (tTestD (dBi (gEqS false) (tValD 4) (tCD (.int 0)))) (tCallD F_text_of px (aCons (tValD 12) aNil)) (tCallK F_text_of px [0] (lCons (tValD 12) lNil))) from (mo_if (mo_test (mo_bi mo_gEqS (mo_val 4) (mo_c _))) (mo_call (mo_acons (mo_val 12) mo_anil)) (mo_callK (mo_lcons (mo_val 12) mo_lnil)))))))
    (pssd_one (psd_if (dt_neS (PO.of (pd_repr hG (room_u hr) (by rfl) B.repr (PO.of (pd_var (i := 6))))) (PO.of (pd_repr hG (room_u hr) (by rfl) B.repr (PO.of (pd_tup (ds_cons pd_str (ds_cons (pd_var (i := 12)) ds_nil))))))) (pssd_one (psd_ret pd_bl)) pssd_nil))))))))))))))))
    (pssd_one (psd_ret pd_bl)))
structure BadX (d : D) : Prop where
  bad : BadT d
  sb : SB 1000000 5 d
theorem BadX.shw {d : D} (h : BadX d) : Shw (.tuple [.str "table", d]) := shw2 sb_tableW h.sb (by decide) (by decide)
abbrev t_wb (px : XP) : TSD := (sSeq (sSet 6 (tToldM (fun px => (tIfD (tTestD (dBi (gEqS false) (tValD 4) (tCD (.int 0)))) (tCallD F_text_of px (aCons (tValD 12) aNil)) (tCallK F_text_of px [0] (lCons (tValD 12) lNil)))) LCl "told"))
    (sIf (tTestD (dBi (gEqS true) (dUn gRepr (tValD 6)) (dUn gRepr (dTup (lCons (tCD (.str "table")) (lCons (tValD 12) lNil)))))) (sRet (tCD (.bool false))) sNext))
theorem told_bad {P : D → Prop} {d : D} (h : BadT d) (k : P (.tuple [.str "table", d])) : F_text_of.run [.dat d] (fun d => P (.tuple [.str "told", d])) (fun c nm d => ∃ s1, (c, nm, s1) ∈ LCl ∧ P (.tuple [.str s1, d])) :=
  ⟨d, rfl, .inr ⟨h, "table", List.mem_cons_of_mem _ List.mem_cons_self, k⟩⟩
theorem told_good {P : D → Prop} {m : List (List Int)} {n : Nat} (g : Good m n) (k : P (.tuple [.str "told", .str (txt m)])) : F_text_of.run [.dat (tab m)] (fun d => P (.tuple [.str "told", d])) (fun c nm d => ∃ s1, (c, nm, s1) ∈ LCl ∧ P (.tuple [.str s1, d])) :=
  ⟨tab m, rfl, .inl ⟨m, n, rfl, g, k⟩⟩
abbrev t_wb2 (px : XP) : TSD := (sIf (tTestD (dBi (gEqS true) (dUn gRepr (tValD 6)) (dUn gRepr (dTup (lCons (tCD (.str "table")) (lCons (tValD 12) lNil)))))) (sRet (tCD (.bool false))) sNext)
theorem l_wb2 {E : EndsD} {px : XP} {d : DL.D} {o0 o1 o2 o3 o4 o5 o7 o8 o9 o10 o11 : Slot} (hb : BadX d) (k : ∀ o6, E.nx [o0, o1, o2, o3, o4, o5, o6, o7, o8, o9, o10, o11, .val d]) :
    t_wb2 px E [o0, o1, o2, o3, o4, o5, .val (.tuple [.str "table", d]), o7, o8, o9, o10, o11, .val d] := by
  refine ⟨hb.shw, s12 (by show 2 ≤ 1000; decide), hb.shw, ?_⟩
  exact eq_same (P := fun b => if b = true then _ else _) (k _)
theorem l_wb {E : EndsD} {px : XP} {d : DL.D} {w : Int} {o0 o2 o3 o5 o6 o7 o8 o9 o10 o11 : Slot} (hb : BadX d) (k : ∀ o6, E.nx [o0, .deck, o2, o3, .val (.int w), o5, o6, o7, o8, o9, o10, o11, .val d]) :
    t_wb px E [o0, .deck, o2, o3, .val (.int w), o5, o6, o7, o8, o9, o10, o11, .val d] := by
  have go : t_wb2 px E [o0, .deck, o2, o3, .val (.int w), o5, .val (.tuple [.str "table", d]), o7, o8, o9, o10, o11, .val d] := l_wb2 hb k
  exact ite_t (b := decide (w = 0)) (fun _ => told_bad (P := fun a => t_wb2 px E [o0, .deck, o2, o3, .val (.int w), o5, .val a, o7, o8, o9, o10, o11, .val d]) hb.bad go) (fun _ => told_bad (P := fun a => t_wb2 px E [o0, .deck, o2, o3, .val (.int w), o5, .val a, o7, o8, o9, o10, o11, .val d]) hb.bad go)
abbrev t_lw (px : XP) : TSD := (sFor (iT (dTup (lCons (tValD 11) (lCons (dBi gRepT (dTup (lCons (dBi gRepT (dTup (lCons (tCD (.int 0)) lNil)) (tCD (.int 13))) lNil)) (tCD (.int 13))) lNil)))) (.nm 12) (t_wb px))
def row13 : D := .tuple (List.replicate 13 (.int 0))
def tab13 : D := .tuple (List.replicate 13 row13)
theorem bad13 : BadX tab13 := ⟨.len (by rw [List.length_replicate]; decide) (.inr (by rw [List.length_replicate]; decide)), (sb_tup (n := 7842) (e := 1) (ds := List.replicate 13 row13) fun d hd => by
  rw [List.eq_of_mem_replicate hd]
  exact (sb_tup (n := 601) (e := 0) (ds := List.replicate 13 (.int 0)) fun x hx => by
    rw [List.eq_of_mem_replicate hx]
    exact sb_int Sm.zero).le (by rw [List.length_replicate]; decide) (Nat.le_refl _)).le (by rw [List.length_replicate]; decide) (by decide)⟩
theorem flat_one (x : D) : ∀ n : Nat, (List.replicate n [x]).flatten = List.replicate n x
  | 0 => rfl
  | n + 1 => by rw [List.replicate_succ, List.flatten_cons, flat_one x n]; rfl
theorem l_w {E : EndsD} {px : XP} {d : DL.D} {w : Int} {o0 o2 o3 o5 o6 o7 o8 o9 o10 o12 : Slot} (hb : BadX d) (k : ∀ o6 o12, E.nx [o0, .deck, o2, o3, .val (.int w), o5, o6, o7, o8, o9, o10, .val d, o12]) :
    t_lw px E [o0, .deck, o2, o3, .val (.int w), o5, o6, o7, o8, o9, o10, .val d, o12] := by
  have s1 : 1 ≤ sizeLine := by decide
  refine ⟨s1, ⟨by decide, by decide, fun z => (nomatch z), (by show 1 ≤ 1000; decide)⟩, s1, ⟨by decide, by decide, fun z => (nomatch z), (by show 1 ≤ 1000; decide)⟩, s12 (by show 2 ≤ 1000; decide), ?_⟩
  have e13 : (.tuple (List.replicate (13 : Int).toNat [.tuple (List.replicate (13 : Int).toNat [.int 0]).flatten]).flatten : DL.D) = tab13 := by rw [flat_one, flat_one]; rfl
  show forD _ _ _ [d, .tuple (List.replicate (13 : Int).toNat [.tuple (List.replicate (13 : Int).toNat [.int 0]).flatten]).flatten] _
  rw [e13]
  refine l_wb (px := px) hb fun o6 => ?_
  exact l_wb (px := px) bad13 fun o6 => k _ _
/-! the bad things -/
abbrev t_lb (px : XP) : TSD := (sSeq (sSet 11 (tCallD F_Lpick px (aSlot 1 (aCons (dLst (lCons (dUn gList (tValD 3)) (lCons (dSl gSlT (tValD 3) (oSome (tCD (.int 1))) oNone) (lCons (dBi gAdd (dTup (lCons (dUn gList (dBi gIx (tValD 3) (tCD (.int 0)))) lNil)) (dSl gSlT (tValD 3) (oSome (tCD (.int 1))) oNone)) (lCons (tCD .none) (lCons (dTup lNil) (lCons (tCD (.int 0)) (lCons (dTup (lCons (dTup (lCons (tCD (.bool true)) lNil)) lNil)) (lCons (tValD 5) (lCons (dTup (lCons (dTup (lCons (tCD (.int 0)) (lCons (tCD (.int 1)) lNil))) (lCons (dTup (lCons (tCD (.int 2)) (lCons (tCD (.int 0)) lNil))) lNil))) lNil)))))))))) aNil))))
    (t_lw px))
theorem cut1 (l : List D) : DL.cutD l (some 1) none = l.drop 1 := cut_from l 1
theorem sb_many {n : Nat} {ds : List D} (h : ∀ d ∈ ds, SB 7239 1 d) (hl : ds.length ≤ 20) : SB 1000000 5 (.tuple ds) ∧ SB 1000000 5 (.list ds) := by
  have h3 : (7239 + 2) * ds.length ≤ (7239 + 2) * 20 := Nat.mul_le_mul_left _ hl
  exact ⟨(sb_tup h).le (by omega) (by omega), (sb_list h).le (by omega) (by omega)⟩
theorem rowL_sb {r : List Int} (h : Rw r) : SB 7239 1 (.list (r.map PyData.int)) := (sb_list (n := 601) (e := 0) (ds := r.map PyData.int) fun d hd => by
  obtain ⟨x, hx, rfl⟩ := List.mem_map.mp hd
  exact sb_int ((h.sz x hx).sm.le (by decide))).le (by rw [List.length_map]; have := h.len; omega) (Nat.le_refl _)
theorem bad_list {m : List (List Int)} {n : Nat} (g : Good m n) : BadX (.list (m.map iTup)) := ⟨.nt rfl, (sb_many (n := n) (fun d hd => by
  obtain ⟨x, hx, rfl⟩ := List.mem_map.mp hd
  exact row_sb (good_rw g x hx)) (by rw [List.length_map, g.sq.len]; have := g.hi; omega)).2⟩
theorem rows_sb {m : List (List Int)} {n : Nat} (g : Good m n) : ∀ d ∈ m.map iTup, SB 7239 1 d := fun d hd => by
  obtain ⟨x, hx, rfl⟩ := List.mem_map.mp hd
  exact row_sb (good_rw g x hx)
theorem rows_nar {m : List (List Int)} {n : Nat} (g : Good m n) : ∀ d ∈ m.map iTup, Nar d := fun d hd ds e => by
  obtain ⟨x, hx, rfl⟩ := List.mem_map.mp hd
  cases e
  rw [List.length_map, g.sq.row x hx]
  have := g.hi
  omega
theorem bad_tail {m : List (List Int)} {n : Nat} (g : Good m n) : BadX (.tuple (DL.cutD (m.map iTup) (some 1) none)) := by
  rw [cut1]
  have hl : ((m.map iTup).drop 1).length = n - 1 := by rw [List.length_drop, List.length_map, g.sq.len]
  have hi := g.hi
  have lo := g.lo
  refine ⟨?_, (sb_many (n := n) (fun d hd => rows_sb g d (List.mem_of_mem_drop hd)) (by omega)).1⟩
  by_cases h1 : n = 1
  · exact .len (by omega) (.inl (by omega))
  · refine .row (by omega) (by omega) (fun d hd => rows_nar g d (List.mem_of_mem_drop hd)) ?_
    rw [hl]
    have hm : iTup (m.getD 1 []) ∈ (m.map iTup).drop 1 := by
      have h2 : 1 < m.length := by rw [g.sq.len]; omega
      rw [List.mem_iff_getElem]
      refine ⟨0, by omega, ?_⟩
      rw [List.getElem_drop, List.getElem_map]
      simp [h2]
    refine Bool.eq_false_iff.mpr fun z => ?_
    have := List.all_eq_true.mp z _ hm
    unfold okR at this
    rw [Bool.and_eq_true] at this
    have h3 : decide (((m.getD 1 []).map PyData.int).length = n - 1) = true := this.2
    have h3 := of_decide_eq_true h3
    rw [List.length_map, row_len g.sq (by omega)] at h3
    omega
theorem bad_head {m : List (List Int)} {n : Nat} (g : Good m n) : BadX (.tuple ([.list ((m.getD 0 []).map PyData.int)] ++ DL.cutD (m.map iTup) (some 1) none)) := by
  rw [cut1]
  have hl : ((m.map iTup).drop 1).length = n - 1 := by rw [List.length_drop, List.length_map, g.sq.len]
  have hi := g.hi
  have lo := g.lo
  have h0 : m.getD 0 [] ∈ m := getD_mem (by rw [g.sq.len]; omega)
  have hlen : ([.list ((m.getD 0 []).map PyData.int)] ++ (m.map iTup).drop 1 : List D).length = n := by
    rw [List.length_append, hl]
    show 1 + (n - 1) = n
    omega
  refine ⟨.row (by omega) (by omega) (fun d hd => ?_) ?_, (sb_many (n := n) (fun d hd => ?_) (by omega)).1⟩
  · rcases List.mem_cons.mp hd with rfl | hd
    · exact fun ds e => by cases e
    · exact rows_nar g d (List.mem_of_mem_drop hd)
  · rfl
  · rcases List.mem_cons.mp hd with rfl | hd
    · exact rowL_sb (good_rw g _ h0)
    · exact rows_sb g d (List.mem_of_mem_drop hd)
theorem bad_consts : BadX .none ∧ BadX (.tuple []) ∧ BadX (.int 0) ∧ BadX (.tuple [.tuple [.bool true]]) ∧ BadX (.tuple [.tuple [.int 0, .int 1], .tuple [.int 2, .int 0]]) := by
  refine ⟨⟨.nt rfl, sb_none.le (by decide) (by decide)⟩, ⟨.len (by decide) (.inl rfl), ⟨rfl, by decide, by decide +kernel⟩⟩, ⟨.nt rfl, (sb_int Sm.zero).le (by decide) (by decide)⟩,
    ⟨.row (by decide) (by decide) (fun d hd ds e => ?_) rfl, ⟨rfl, by decide, by decide +kernel⟩⟩, ⟨.asym (m := [[0, 1], [2, 0]]) (n := 2) (i := 1) (j := 0) ⟨rfl, fun r hr => ?_⟩ (by decide) (by decide) (by decide) (by decide), ⟨by decide +kernel, by decide, by decide +kernel⟩⟩⟩
  · rw [List.mem_singleton.mp hd] at e
    cases e
    show 1 ≤ _
    decide
  · simp only [List.mem_cons, List.not_mem_nil, or_false] at hr
    rcases hr with rfl | rfl <;> rfl
theorem l_b {E : EndsD} {px : XP} {m : List (List Int)} {n : Nat} {w : Int} {o0 o2 o6 o7 o8 o9 o10 o11 o12 : Slot} (g : Good m n) (k : ∀ o6 o11 o12, E.nx [o0, .deck, o2, .val (tab m), .val (.int w), .val (.str (txt m)), o6, o7, o8, o9, o10, o11, o12]) :
    t_lb px E [o0, .deck, o2, .val (tab m), .val (.int w), .val (.str (txt m)), o6, o7, o8, o9, o10, o11, o12] := by
  have s1 : 1 ≤ sizeLine := by decide
  have s2 : 2 ≤ sizeLine := by decide
  have s9 : 9 ≤ sizeLine := by decide
  have hi := g.hi
  have lo := g.lo
  have hl : ((m.map iTup).drop 1).length = n - 1 := by rw [List.length_drop, List.length_map, g.sq.len]
  have hfit : ([.list ((m.getD 0 []).map PyData.int)] : List D).length + (DL.cutD (m.map iTup) (some 1) none).length ≤ sizeLine := by
    rw [cut1, hl]
    exact s12 (by show 1 + (n - 1) ≤ 1000; omega)
  refine ⟨iTup (m.getD 0 []), at_tab (i := 0) (by rw [g.sq.len]; omega), s1, hfit, Nat.zero_le _, s1, s1, s2, s2, s2, s9, _, rfl, (by show 1 ≤ 9; decide), (by show 9 ≤ 100; decide), fun d hd => ?_⟩
  have hb : BadX d := by
    have hd : d ∈ [.list (m.map iTup), .tuple (DL.cutD (m.map iTup) (some 1) none), .tuple ([.list ((m.getD 0 []).map PyData.int)] ++ DL.cutD (m.map iTup) (some 1) none), .none, .tuple [], .int 0, .tuple [.tuple [.bool true]], .str (txt m), .tuple [.tuple [.int 0, .int 1], .tuple [.int 2, .int 0]]] := hd
    obtain ⟨c1, c2, c3, c4, c5⟩ := bad_consts
    simp only [List.mem_cons, List.not_mem_nil, or_false] at hd
    rcases hd with rfl | rfl | rfl | rfl | rfl | rfl | rfl | rfl | rfl
    · exact bad_list g
    · exact bad_tail g
    · exact bad_head g
    · exact c1
    · exact c2
    · exact c3
    · exact c4
    · exact ⟨.nt rfl, (tb_sb (n := 3601) ⟨txt_len g, fun c hc => Nat.lt_trans (txt_signs hc) (by decide)⟩).le (by decide) (by decide)⟩
    · exact c5
  exact l_w (px := px) hb fun o6 o12 => k _ _ _
end Z

namespace Z
open PySem PySem.Spec PyProof.Rows L2 DL TL
/-! ### law: heads, things, bends -/
def okH (z : Str) : Bool := match Txt.split z nl with
  | [] => false
  | l :: _ => (hdr l).isNone
theorem okH_ok {z : Str} (h : okH z = true) : Okz z := by
  unfold okH at h
  unfold Okz
  cases e : Txt.split z nl with
  | nil => rw [e] at h; cases h
  | cons l ls =>
    rw [e] at h
    refine .inr ⟨l, ls, rfl, ?_⟩
    have h : (hdr l).isNone = true := h
    cases e2 : hdr l with
    | none => rfl
    | some n => rw [e2] at h; cases h
abbrev heads : List Str := ["", "table", "table ", "table 0", "table 13", "table 01", "Table 1", "table 1 ", "table -1"]
abbrev tails : List Str := ["", "\n0", "\n"]
theorem heads_ok : ∀ h ∈ heads, ∀ t ∈ tails, okH (h ++ t) = true := by decide +kernel
theorem heads_tb : ∀ h ∈ heads, (∀ c ∈ tl h, c < 2000) ∧ h.length ≤ 10 := by decide +kernel
theorem tails_tb : ∀ h ∈ tails, (∀ c ∈ tl h, c < 2000) ∧ h.length ≤ 10 := by decide +kernel
theorem nl_first {z : Str} {b : List Nat} (h : tl z = 10 :: b) : ∃ ls, Txt.split z nl = ("" : Str) :: ls := by
  have ej := congrArg tl (StrLaws.join_split z nl)
  have hf := StrLaws.split_free z 10
  have en : nl = (⟨#[10]⟩ : Str) := ext_tl nl_tl
  rw [en] at ej ⊢
  generalize Txt.split z ⟨#[10]⟩ = L at ej hf ⊢
  rw [h, tl_join] at ej
  cases L with
  | nil => cases ej
  | cons p ps =>
    have hp := hf p List.mem_cons_self
    have e : p = "" := by
      cases hq : tl p with
      | nil => exact ext_tl (hq.trans (show [] = tl ("" : Str) by decide +kernel))
      | cons c r =>
        exfalso
        have hc : c = 10 := by
          cases ps with
          | nil =>
            have ej : tl p = 10 :: b := ej
            rw [hq] at ej
            exact (List.cons.inj ej).1
          | cons q qs =>
            have ej : tl p ++ ([10] ++ joinL [10] ((q :: qs).map tl)) = 10 :: b := ej
            rw [hq] at ej
            exact (List.cons.inj ej).1
        have hp : 10 ∉ tl p := hp
        rw [hq, hc] at hp
        exact hp List.mem_cons_self
    exact ⟨ps, by rw [e]⟩
theorem hdr_empty : hdr "" = none := by decide +kernel
theorem nl_okz (x t : Str) : Okz (nl ++ x ++ t) := by
  have : tl (nl ++ x ++ t) = 10 :: (tl x ++ tl t) := by
    rw [tl_append, tl_append, nl_tl]
    rfl
  obtain ⟨ls, e⟩ := nl_first this
  exact .inr ⟨_, ls, e, hdr_empty⟩
theorem txt_tb {m : List (List Int)} {n : Nat} (g : Good m n) : TB 3601 (txt m) := ⟨txt_len g, fun c hc => Nat.lt_trans (txt_signs hc) (by decide)⟩
abbrev t_lh2 (px : XP) : TSD := (sSeq (sIf (tNotD (tTestD (tCallD F_Lis_read px (aCons (dBi gAdd (tValD 10) (tCallD F_Lpick px (aSlot 1 (aCons (dLst (lCons (tCD (.str "")) (lCons (tCD (.str "\n0")) (lCons (tCD (.str "\n")) lNil)))) aNil)))) (aCons (dBi gSub (tCD (.int 1)) (tValD 4)) aNil))))) (sRet (tCD (.bool false))) sNext)
    (t_lb px))
abbrev t_lh (px : XP) : TSD := (sSeq (sSet 10 (tCallD F_Lpick px (aSlot 1 (aCons (dLst (lCons (tCD (.str "")) (lCons (tCD (.str "table")) (lCons (tCD (.str "table ")) (lCons (tCD (.str "table 0")) (lCons (tCD (.str "table 13")) (lCons (tCD (.str "table 01")) (lCons (tCD (.str "Table 1")) (lCons (tCD (.str "table 1 ")) (lCons (tCD (.str "table -1")) (lCons (dBi gAdd (tCD (.str "\n")) (tValD 5)) lNil))))))))))) aNil))))
    (t_lh2 px))
structure HdX (h : Str) : Prop where
  tb : TB 4000 h
  ok : ∀ t ∈ tails, Okz (h ++ t)
theorem l_h2 {E : EndsD} {px : XP} {m : List (List Int)} {n : Nat} {w : Int} {hd : Str} {o0 o2 o6 o7 o8 o9 o11 o12 : Slot} (g : Good m n) (hh : HdX hd) (k : ∀ o6 o11 o12, E.nx [o0, .deck, o2, .val (tab m), .val (.int w), .val (.str (txt m)), o6, o7, o8, o9, .val (.str hd), o11, o12]) :
    t_lh2 px E [o0, .deck, o2, .val (tab m), .val (.int w), .val (.str (txt m)), o6, o7, o8, o9, .val (.str hd), o11, o12] := by
  refine ⟨(by show 3 ≤ sizeLine; decide), _, rfl, (by show 1 ≤ 3; decide), (by show 3 ≤ 100; decide), fun d hd => ?_⟩
  have hd : d ∈ tails.map PyData.str := hd
  obtain ⟨t, ht, rfl⟩ := mem_strs hd
  obtain ⟨t1, t2⟩ := tails_tb t ht
  have tb := hh.tb.app (tb_lit t t1 t2)
  refine ⟨hh.tb.fit2 (tb_lit t t1 t2) (by decide), _, _, rfl, ⟨.inr ⟨_, rfl, tb.le (by decide), hh.ok t ht⟩⟩, ?_⟩
  exact l_b (px := px) g k
theorem l_h {E : EndsD} {px : XP} {m : List (List Int)} {n : Nat} {w : Int} {o0 o2 o6 o7 o8 o9 o10 o11 o12 : Slot} (g : Good m n) (k : ∀ o6 o10 o11 o12, E.nx [o0, .deck, o2, .val (tab m), .val (.int w), .val (.str (txt m)), o6, o7, o8, o9, o10, o11, o12]) :
    t_lh px E [o0, .deck, o2, .val (tab m), .val (.int w), .val (.str (txt m)), o6, o7, o8, o9, o10, o11, o12] := by
  have tb := txt_tb g
  have tbn : TB 10 nl := tb_lit nl nl_ch (by rw [one_nl]; decide)
  refine ⟨tbn.fit2 tb (by decide), (by show 10 ≤ sizeLine; decide), _, rfl, (by show 1 ≤ 10; decide), (by show 10 ≤ 100; decide), fun d hd => ?_⟩
  have hd : d ∈ (heads ++ [nl ++ txt m]).map PyData.str := hd
  obtain ⟨s, hs, rfl⟩ := mem_strs hd
  have hh : HdX s := by
    rcases List.mem_append.mp hs with hs | hs
    · obtain ⟨h1, h2⟩ := heads_tb s hs
      exact ⟨(tb_lit s h1 h2).le (by decide), fun t ht => okH_ok (heads_ok s hs t ht)⟩
    · rw [List.mem_singleton.mp hs]
      exact ⟨(tbn.app tb).le (by decide), fun t ht => nl_okz _ _⟩
  exact l_h2 (px := px) g hh fun o6 o11 o12 => k _ _ _ _
abbrev t_lt2 (px : XP) : TSD := (sSeq (sIf (tNotD (tTestD (tCallD F_Lis_read px (aCons (tValD 9) (aCons (tValD 4) aNil))))) (sRet (tCD (.bool false))) sNext)
    (t_lh px))
abbrev t_lt (px : XP) : TSD := (sSeq (sSet 9 (tCallD F_Lpick px (aSlot 1 (aCons (dLst (lCons (tCD .none) (lCons (tCD (.int 0)) (lCons (tCD (.bool true)) (lCons (dTup (lCons (tValD 5) lNil)) (lCons (dLst (lCons (tValD 5) lNil)) (lCons (dDict (kCons (.inr "text") (tValD 5) kNil)) (lCons (tValD 3) (lCons (dM1 gSplit (tValD 5) (tCD (.str "\n"))) (lCons (dUn gNeg (tCD (.int 1))) lNil)))))))))) aNil))))
    (t_lt2 px))
theorem l_t2 {E : EndsD} {px : XP} {m : List (List Int)} {n : Nat} {w : Int} {d : DL.D} {o0 o2 o6 o7 o8 o10 o11 o12 : Slot} (g : Good m n) (hd : isa d "str" = false) (k : ∀ o6 o10 o11 o12, E.nx [o0, .deck, o2, .val (tab m), .val (.int w), .val (.str (txt m)), o6, o7, o8, .val d, o10, o11, o12]) :
    t_lt2 px E [o0, .deck, o2, .val (tab m), .val (.int w), .val (.str (txt m)), o6, o7, o8, .val d, o10, o11, o12] := by
  refine ⟨d, w, rfl, ⟨.inl hd⟩, ?_⟩
  exact l_h (px := px) g k
theorem nd_one : ([(Sum.inr (Str.ofString "text") : Key)]).Nodup := by decide +kernel
theorem l_t {E : EndsD} {px : XP} {m : List (List Int)} {n : Nat} {w : Int} {o0 o2 o6 o7 o8 o9 o10 o11 o12 : Slot} (g : Good m n) (k : ∀ o6 o9 o10 o11 o12, E.nx [o0, .deck, o2, .val (tab m), .val (.int w), .val (.str (txt m)), o6, o7, o8, o9, o10, o11, o12]) :
    t_lt px E [o0, .deck, o2, .val (tab m), .val (.int w), .val (.str (txt m)), o6, o7, o8, o9, o10, o11, o12] := by
  have s1 : 1 ≤ sizeLine := by decide
  have tb := txt_tb g
  refine ⟨s1, s1, nd_one, (by show 1 ≤ 15; decide), ⟨_, rfl⟩, by decide, s7 (by have := tb.len; omega), (by show 9 ≤ sizeLine; decide), _, rfl, (by show 1 ≤ 9; decide), (by show 9 ≤ 100; decide), fun d hd => ?_⟩
  have hb : isa d "str" = false := by
    have hd : d ∈ [.none, .int 0, .bool true, .tuple [.str (txt m)], .list [.str (txt m)], .dict [(.str "text", .str (txt m))], tab m, .list ((Txt.split (txt m) nl).map PyData.str), .int (-1)] := hd
    simp only [List.mem_cons, List.not_mem_nil, or_false] at hd
    rcases hd with rfl | rfl | rfl | rfl | rfl | rfl | rfl | rfl | rfl <;> rfl
  exact l_t2 (px := px) g hb fun o6 o10 o11 o12 => k _ _ _ _ _
abbrev t_bb2 (px : XP) : TSD := (sIf (tAndD (tNotD (tTestD (tCallD F_Lis_long px (aCons (tValD 8) aNil)))) (tNotD (tTestD (tCallD F_Lis_read px (aCons (tValD 8) (aCons (tValD 4) aNil)))))) (sRet (tCD (.bool false))) sNext)
abbrev t_bb (px : XP) : TSD := (sSeq (sSet 8 (tCallD F_Lbent px (aSlot 1 (aCons (tValD 5) aNil))))
    (sSeq (sSet 8 (tIfD (tTestD (dBi (gEqS false) (tCallD F_Ldraw px (aSlot 1 (aCons (tCD (.int 3)) aNil))) (tCD (.int 0)))) (tCallD F_Lbent px (aSlot 1 (aCons (tValD 8) aNil))) (tValD 8)))
    (t_bb2 px)))
theorem l_bb2 {E : EndsD} {px : XP} {z : Str} {w : Int} {o0 o2 o3 o5 o6 o7 o9 o10 o11 o12 : Slot} (hz : TB 200000 z) (k : E.nx [o0, .deck, o2, o3, .val (.int w), o5, o6, o7, .val (.str z), o9, o10, o11, o12]) :
    t_bb2 px E [o0, .deck, o2, o3, .val (.int w), o5, o6, o7, .val (.str z), o9, o10, o11, o12] := by
  refine ⟨z, rfl, ?_⟩
  refine ite_t (b := !long z) (fun e => ?_) (fun _ => k)
  have e : long z = false := by cases y : long z with | false => rfl | true => rw [y] at e; cases e
  exact ⟨.str z, w, rfl, ⟨.inr ⟨z, rfl, hz, .inl (long_safe e)⟩⟩, k⟩
theorem l_bb {E : EndsD} {px : XP} {m : List (List Int)} {n : Nat} {w : Int} {o0 o2 o3 o6 o7 o8 o9 o10 o11 o12 : Slot} (g : Good m n) (k : ∀ o8, E.nx [o0, .deck, o2, o3, .val (.int w), .val (.str (txt m)), o6, o7, o8, o9, o10, o11, o12]) :
    t_bb px E [o0, .deck, o2, o3, .val (.int w), .val (.str (txt m)), o6, o7, o8, o9, o10, o11, o12] := by
  refine ⟨txt m, 3601, rfl, by decide, txt_tb g, fun z hz => ?_⟩
  refine ⟨3, rfl, by decide, by decide, fun u u0 u1 => ?_⟩
  refine ite_t (b := decide (u = 0)) (fun _ => ?_) (fun _ => ?_)
  · exact ⟨z, 5 * 3601 + 20, rfl, by decide, hz, fun z2 hz2 => l_bb2 (px := px) (hz2.le (by decide)) (k _)⟩
  · exact l_bb2 (px := px) (hz.le (by decide)) (k _)
abbrev t_lm (px : XP) : TSD := (sSeq (sFor (iR1 (tCD (.int 5))) (.nm 7) (t_bb px)) (t_lt px))
theorem l_m {E : EndsD} {px : XP} {m : List (List Int)} {n : Nat} {w : Int} {o0 o2 o6 o7 o8 o9 o10 o11 o12 : Slot} (g : Good m n) (k : ∀ o6 o7 o8 o9 o10 o11 o12, E.nx [o0, .deck, o2, .val (tab m), .val (.int w), .val (.str (txt m)), o6, o7, o8, o9, o10, o11, o12]) :
    t_lm px E [o0, .deck, o2, .val (tab m), .val (.int w), .val (.str (txt m)), o6, o7, o8, o9, o10, o11, o12] := by
  refine ⟨⟨by decide, by decide⟩, ?_⟩
  refine forD_inv (fun ρ => ∃ o7 o8, ρ = [o0, .deck, o2, .val (tab m), .val (.int w), .val (.str (txt m)), o6, o7, o8, o9, o10, o11, o12]) (rangeD 0 1 5) ?_ ?_ _ ⟨_, _, rfl⟩
  · rintro d hd ρ ⟨o7, o8, rfl⟩ N q
    exact l_bb (px := px) g fun o8 => q _ ⟨_, _, rfl⟩
  · rintro ρ ⟨o7, o8, rfl⟩
    exact l_t (px := px) g fun o6 o9 o10 o11 o12 => k _ _ _ _ _ _ _
abbrev t_lq (px : XP) : TSD := (sSeq (sIf (tOrD (tTestD (dBi (gEqS true) (dUn gRepr (tValD 6)) (dUn gRepr (dTup (lCons (tCD (.str "told")) (lCons (tValD 5) lNil)))))) (tNotD (tTestD (tCallD F_Lis_read px (aCons (tValD 5) (aCons (tValD 4) aNil)))))) (sRet (tCD (.bool false))) sNext)
    (t_lm px))
theorem l_q {E : EndsD} {px : XP} {m : List (List Int)} {n : Nat} {w : Int} {o0 o2 o7 o8 o9 o10 o11 o12 : Slot} (g : Good m n) (k : ∀ o6 o7 o8 o9 o10 o11 o12, E.nx [o0, .deck, o2, .val (tab m), .val (.int w), .val (.str (txt m)), o6, o7, o8, o9, o10, o11, o12]) :
    t_lq px E [o0, .deck, o2, .val (tab m), .val (.int w), .val (.str (txt m)), .val (.tuple [.str "told", .str (txt m)]), o7, o8, o9, o10, o11, o12] := by
  have tb := txt_tb g
  have hS : Shw (.tuple [.str "told", .str (txt m)]) := shw2 sb_told (tb_sb tb) (by decide) (by decide)
  refine ⟨hS, s12 (by show 2 ≤ 1000; decide), hS, ?_⟩
  refine eq_same (P := fun b => if b = true then _ else _) ?_
  refine ⟨.str (txt m), w, rfl, ⟨.inr ⟨_, rfl, tb.le (by decide), .inl (txt_safe g)⟩⟩, ?_⟩
  exact l_m (px := px) g k
abbrev t_ls (px : XP) : TSD := (sSeq (sSet 6 (tToldM (fun px => (tIfD (tTestD (dBi (gEqS false) (tValD 4) (tCD (.int 0)))) (tCallD F_text_of px (aCons (tValD 3) aNil)) (tCallK F_text_of px [0] (lCons (tValD 3) lNil)))) LCl "told"))
    (t_lq px))
theorem l_s {E : EndsD} {px : XP} {m : List (List Int)} {n : Nat} {w : Int} {o0 o2 o6 o7 o8 o9 o10 o11 o12 : Slot} (g : Good m n) (k : ∀ o6 o7 o8 o9 o10 o11 o12, E.nx [o0, .deck, o2, .val (tab m), .val (.int w), .val (.str (txt m)), o6, o7, o8, o9, o10, o11, o12]) :
    t_ls px E [o0, .deck, o2, .val (tab m), .val (.int w), .val (.str (txt m)), o6, o7, o8, o9, o10, o11, o12] := by
  have go := l_q (px := px) (o7 := o7) (o8 := o8) (o9 := o9) (o10 := o10) (o11 := o11) (o12 := o12) g k
  exact ite_t (b := decide (w = 0)) (fun _ => told_good (P := fun a => t_lq px E [o0, .deck, o2, .val (tab m), .val (.int w), .val (.str (txt m)), .val a, o7, o8, o9, o10, o11, o12]) g go) (fun _ => told_good (P := fun a => t_lq px E [o0, .deck, o2, .val (tab m), .val (.int w), .val (.str (txt m)), .val a, o7, o8, o9, o10, o11, o12]) g go)
abbrev t_l0 (px : XP) : TSD := (sSeq (sSet 3 (tCallD F_Ldrawn px (aSlot 1 (aCons (dBi gAdd (tCD (.int 1)) (tCallD F_Ldraw px (aSlot 1 (aCons (tIfD (tTestD (dBi (gEqS false) (tCallD F_Ldraw px (aSlot 1 (aCons (tCD (.int 3)) aNil))) (tCD (.int 0)))) (tCD (.int 12)) (tCD (.int 4))) aNil)))) aNil))))
    (sSeq (sAsg (.tup [4, 5]) (dTup (lCons (dBi gAnd (tValD 2) (tCD (.int 1))) (lCons (tCallD F_Ltext px (aCons (tValD 3) aNil)) lNil))))
    (t_ls px)))
theorem l_0 {E : EndsD} {px : XP} {t : Int} {o0 o3 o4 o5 o6 o7 o8 o9 o10 o11 o12 : Slot} (k : ∀ o2 o3 o4 o5 o6 o7 o8 o9 o10 o11 o12, E.nx [o0, .deck, o2, o3, o4, o5, o6, o7, o8, o9, o10, o11, o12]) :
    t_l0 px E [o0, .deck, .val (.int t), o3, o4, o5, o6, o7, o8, o9, o10, o11, o12] := by
  generalize hw : Builtin.bitAnd t 1 = w
  have go : ∀ r : Int, 0 ≤ r → r < 12 → F_Ldrawn.run [.deck, .dat (.int (1 + r))] (fun d => (sSeq (sAsg (.tup [4, 5]) (dTup (lCons (dBi gAnd (tValD 2) (tCD (.int 1))) (lCons (tCallD F_Ltext px (aCons (tValD 3) aNil)) lNil)))) (t_ls px)) E [o0, .deck, .val (.int t), .val d, o4, o5, o6, o7, o8, o9, o10, o11, o12]) px := fun r r0 r1 => by
    refine ⟨(1 + r).toNat, by rw [show (((1 + r).toNat : Nat) : Int) = 1 + r by omega], by omega, by omega, fun m g => ?_⟩
    refine ⟨m, _, rfl, g, (by show 2 ≤ sizeLine; decide), rfl, ?_⟩
    exact l_s (px := px) g fun o6 o7 o8 o9 o10 o11 o12 => k _ _ _ _ _ _ _ _ _ _ _
  refine ⟨3, rfl, by decide, by decide, fun u u0 u1 => ?_⟩
  refine ite_t (b := decide (u = 0)) (fun _ => ?_) (fun _ => ?_)
  · exact ⟨12, rfl, by decide, by decide, fun r r0 r1 => go r r0 r1⟩
  · exact ⟨4, rfl, by decide, by decide, fun r r0 r1 => go r r0 (by omega)⟩
theorem r_law (px : XP) (Q : D → Prop) (o0 : Slot) (h : Q (.bool true)) : t_law px { nx := fun _ => Q .none, rt := Q } [o0, .deck, .un, .un, .un, .un, .un, .un, .un, .un, .un, .un, .un] := by
  refine ⟨⟨by decide, by decide⟩, ?_⟩
  refine forD_inv (fun ρ => ∃ o2 o3 o4 o5 o6 o7 o8 o9 o10 o11 o12, ρ = [o0, .deck, o2, o3, o4, o5, o6, o7, o8, o9, o10, o11, o12]) (rangeD 0 1 4) ?_ ?_ _ ⟨_, _, _, _, _, _, _, _, _, _, _, rfl⟩
  · rintro d hd ρ ⟨o2, o3, o4, o5, o6, o7, o8, o9, o10, o11, o12, rfl⟩ N k
    obtain ⟨i, hi, rfl⟩ := rng_mem hd
    exact l_0 (px := px) fun o2 o3 o4 o5 o6 o7 o8 o9 o10 o11 o12 => k _ ⟨_, _, _, _, _, _, _, _, _, _, _, rfl⟩
  · rintro ρ ⟨o2, o3, o4, o5, o6, o7, o8, o9, o10, o11, o12, rfl⟩
    exact h
end Z

namespace Z
open PySem PySem.Spec PyProof.Rows L2 DL
/-! ### the promises kept -/
theorem fn_is_whole {G : Around → Prop} (hGd : ∀ A env, G A → G (A.deeper env)) {P : Program} {w : World} {K : PySem.W.Frag} {mg : Str → Option Value} {base : Heap} {k : Nat} {wd : Wd} (B : Blt3 mg)  {f : Addr} {fd : FuncData} (F : L2.Fun K "is_whole" "is_whole" s_is_whole f fd) :
    FnR G P w K mg base (L2.CX P w) (k + 1) f fd ["thing"] (spD K wd F_is_whole) :=
  fnr_mk F sc_is_whole hGd (by intro as Q Z h; first | (obtain ⟨rfl, _⟩ := h; rfl) | (obtain ⟨_, rfl, _⟩ := h; rfl) | (obtain ⟨_, _, rfl, _⟩ := h; rfl) | (obtain ⟨_, _, _, rfl, _⟩ := h; rfl) | (obtain ⟨_, _, _, _, rfl, _⟩ := h; rfl) | (obtain ⟨_, _, _, _, _, rfl, _⟩ := h; rfl) | (obtain ⟨_, _, _, _, _, _, rfl, _⟩ := h; rfl) | (obtain ⟨_, _, _, _, _, _, _, rfl, _⟩ := h; rfl)) (fun cdv hcd A outer s H E C px hr hG hw hx as Q h => by subst hw; exact ⟨_, d_is_whole B hr hG hx , r_is_whole px as Q h⟩)
theorem fn_are_whole {G : Around → Prop} (hGd : ∀ A env, G A → G (A.deeper env)) {P : Program} {w : World} {K : PySem.W.Frag} {mg : Str → Option Value} {base : Heap} {k : Nat} {wd : Wd} (B : Blt3 mg) (c_is_whole : Cal G P w K mg base k "is_whole" ["thing"] wd F_is_whole) {f : Addr} {fd : FuncData} (F : L2.Fun K "are_whole" "are_whole" s_are_whole f fd) :
    FnR G P w K mg base (L2.CX P w) (k + 1) f fd ["thing"] (spD K wd F_are_whole) :=
  fnr_mk F sc_are_whole hGd (by intro as Q Z h; first | (obtain ⟨rfl, _⟩ := h; rfl) | (obtain ⟨_, rfl, _⟩ := h; rfl) | (obtain ⟨_, _, rfl, _⟩ := h; rfl) | (obtain ⟨_, _, _, rfl, _⟩ := h; rfl) | (obtain ⟨_, _, _, _, rfl, _⟩ := h; rfl) | (obtain ⟨_, _, _, _, _, rfl, _⟩ := h; rfl) | (obtain ⟨_, _, _, _, _, _, rfl, _⟩ := h; rfl) | (obtain ⟨_, _, _, _, _, _, _, rfl, _⟩ := h; rfl)) (fun cdv hcd A outer s H E C px hr hG hw hx as Q h => by subst hw; exact ⟨_, d_are_whole B hr hG hx c_is_whole, r_are_whole px as Q h⟩)
theorem fn_is_table_value {G : Around → Prop} (hGd : ∀ A env, G A → G (A.deeper env)) {P : Program} {w : World} {K : PySem.W.Frag} {mg : Str → Option Value} {base : Heap} {k : Nat} {wd : Wd} (B : Blt3 mg) (c_are_whole : Cal G P w K mg base k "are_whole" ["thing"] wd F_are_whole) {f : Addr} {fd : FuncData} (F : L2.Fun K "is_table_value" "is_table_value" s_is_table_value f fd) :
    FnR G P w K mg base (L2.CX P w) (k + 1) f fd ["thing", "most"] (spD K wd F_is_table_value) :=
  fnr_mk F sc_is_table_value hGd (by intro as Q Z h; first | (obtain ⟨rfl, _⟩ := h; rfl) | (obtain ⟨_, rfl, _⟩ := h; rfl) | (obtain ⟨_, _, rfl, _⟩ := h; rfl) | (obtain ⟨_, _, _, rfl, _⟩ := h; rfl) | (obtain ⟨_, _, _, _, rfl, _⟩ := h; rfl) | (obtain ⟨_, _, _, _, _, rfl, _⟩ := h; rfl) | (obtain ⟨_, _, _, _, _, _, rfl, _⟩ := h; rfl) | (obtain ⟨_, _, _, _, _, _, _, rfl, _⟩ := h; rfl)) (fun cdv hcd A outer s H E C px hr hG hw hx as Q h => by subst hw; exact ⟨_, d_is_table_value B hr hG hx c_are_whole, r_is_table_value px as Q h⟩)
theorem fn_need_table {G : Around → Prop} (hGd : ∀ A env, G A → G (A.deeper env)) {P : Program} {w : World} {K : PySem.W.Frag} {mg : Str → Option Value} {base : Heap} {k : Nat} {wd : Wd} (B : Blt3 mg) {t_MOST_PLACES : Tok} (g_MOST_PLACES : mg "MOST_PLACES" = some (.int 12 t_MOST_PLACES)) (c_is_table_value : Cal G P w K mg base k "is_table_value" ["thing", "most"] wd F_is_table_value) (r_BadTable : Rs P w K mg base "BadTable" "thing" CT) (hk : 2 ≤ k) {f : Addr} {fd : FuncData} (F : L2.Fun K "need_table" "need_table" s_need_table f fd) :
    FnR G P w K mg base (L2.CX P w) (k + 1) f fd ["thing"] (spD K wd F_need_table) :=
  fnr_mk F sc_need_table hGd (by intro as Q Z h; first | (obtain ⟨rfl, _⟩ := h; rfl) | (obtain ⟨_, rfl, _⟩ := h; rfl) | (obtain ⟨_, _, rfl, _⟩ := h; rfl) | (obtain ⟨_, _, _, rfl, _⟩ := h; rfl) | (obtain ⟨_, _, _, _, rfl, _⟩ := h; rfl) | (obtain ⟨_, _, _, _, _, rfl, _⟩ := h; rfl) | (obtain ⟨_, _, _, _, _, _, rfl, _⟩ := h; rfl) | (obtain ⟨_, _, _, _, _, _, _, rfl, _⟩ := h; rfl)) (fun cdv hcd A outer s H E C px hr hG hw hx as Q h => by subst hw; exact ⟨_, d_need_table B g_MOST_PLACES hr hG hx c_is_table_value r_BadTable hk, r_need_table px as Q h⟩)
theorem fn_table_lines {G : Around → Prop} (hGd : ∀ A env, G A → G (A.deeper env)) {P : Program} {w : World} {K : PySem.W.Frag} {mg : Str → Option Value} {base : Heap} {k : Nat} {wd : Wd} (B : Blt3 mg)  {f : Addr} {fd : FuncData} (F : L2.Fun K "table_lines" "table_lines" s_table_lines f fd) :
    FnR G P w K mg base (L2.CX P w) (k + 1) f fd ["table"] (spD K wd F_table_lines) :=
  fnr_mk F sc_table_lines hGd (by intro as Q Z h; first | (obtain ⟨rfl, _⟩ := h; rfl) | (obtain ⟨_, rfl, _⟩ := h; rfl) | (obtain ⟨_, _, rfl, _⟩ := h; rfl) | (obtain ⟨_, _, _, rfl, _⟩ := h; rfl) | (obtain ⟨_, _, _, _, rfl, _⟩ := h; rfl) | (obtain ⟨_, _, _, _, _, rfl, _⟩ := h; rfl) | (obtain ⟨_, _, _, _, _, _, rfl, _⟩ := h; rfl) | (obtain ⟨_, _, _, _, _, _, _, rfl, _⟩ := h; rfl)) (fun cdv hcd A outer s H E C px hr hG hw hx as Q h => by subst hw; exact ⟨_, d_table_lines B hr hG hx , r_table_lines px as Q h⟩)
theorem fn_text_of {G : Around → Prop} (hGd : ∀ A env, G A → G (A.deeper env)) {P : Program} {w : World} {K : PySem.W.Frag} {mg : Str → Option Value} {base : Heap} {k : Nat} {wd : Wd} (B : Blt3 mg) (c_need_table : Cal G P w K mg base k "need_table" ["thing"] wd F_need_table) (c_table_lines : Cal G P w K mg base k "table_lines" ["table"] wd F_table_lines) {f : Addr} {fd : FuncData} (F : L2.Fun K "text_of" "text_of" s_text_of f fd) :
    FnR G P w K mg base (L2.CX P w) (k + 1) f fd ["table"] (spD K wd F_text_of) :=
  fnr_mk F sc_text_of hGd (by intro as Q Z h; first | (obtain ⟨rfl, _⟩ := h; rfl) | (obtain ⟨_, rfl, _⟩ := h; rfl) | (obtain ⟨_, _, rfl, _⟩ := h; rfl) | (obtain ⟨_, _, _, rfl, _⟩ := h; rfl) | (obtain ⟨_, _, _, _, rfl, _⟩ := h; rfl) | (obtain ⟨_, _, _, _, _, rfl, _⟩ := h; rfl) | (obtain ⟨_, _, _, _, _, _, rfl, _⟩ := h; rfl) | (obtain ⟨_, _, _, _, _, _, _, rfl, _⟩ := h; rfl)) (fun cdv hcd A outer s H E C px hr hG hw hx as Q h => by subst hw; exact ⟨_, d_text_of B hr hG hx c_need_table c_table_lines, r_text_of px as Q h⟩)
theorem fn_integer_read {G : Around → Prop} (hGd : ∀ A env, G A → G (A.deeper env)) {P : Program} {w : World} {K : PySem.W.Frag} {mg : Str → Option Value} {base : Heap} {k : Nat} {wd : Wd} (B : Blt3 mg) {t_FIGURES : Tok} (g_FIGURES : mg "FIGURES" = some (.str "0123456789" t_FIGURES))  {f : Addr} {fd : FuncData} (F : L2.Fun K "integer_read" "integer_read" s_integer_read f fd) :
    FnR G P w K mg base (L2.CX P w) (k + 1) f fd ["word"] (spD K wd F_integer_read) :=
  fnr_mk F sc_integer_read hGd (by intro as Q Z h; first | (obtain ⟨rfl, _⟩ := h; rfl) | (obtain ⟨_, rfl, _⟩ := h; rfl) | (obtain ⟨_, _, rfl, _⟩ := h; rfl) | (obtain ⟨_, _, _, rfl, _⟩ := h; rfl) | (obtain ⟨_, _, _, _, rfl, _⟩ := h; rfl) | (obtain ⟨_, _, _, _, _, rfl, _⟩ := h; rfl) | (obtain ⟨_, _, _, _, _, _, rfl, _⟩ := h; rfl) | (obtain ⟨_, _, _, _, _, _, _, rfl, _⟩ := h; rfl)) (fun cdv hcd A outer s H E C px hr hG hw hx as Q h => by subst hw; exact ⟨_, d_integer_read B g_FIGURES hr hG hx , r_integer_read px as Q h⟩)
theorem fn_places_read {G : Around → Prop} (hGd : ∀ A env, G A → G (A.deeper env)) {P : Program} {w : World} {K : PySem.W.Frag} {mg : Str → Option Value} {base : Heap} {k : Nat} {wd : Wd} (B : Blt3 mg) {t_MOST_PLACES : Tok} (g_MOST_PLACES : mg "MOST_PLACES" = some (.int 12 t_MOST_PLACES))  {f : Addr} {fd : FuncData} (F : L2.Fun K "places_read" "places_read" s_places_read f fd) :
    FnR G P w K mg base (L2.CX P w) (k + 1) f fd ["line"] (spD K wd F_places_read) :=
  fnr_mk F sc_places_read hGd (by intro as Q Z h; first | (obtain ⟨rfl, _⟩ := h; rfl) | (obtain ⟨_, rfl, _⟩ := h; rfl) | (obtain ⟨_, _, rfl, _⟩ := h; rfl) | (obtain ⟨_, _, _, rfl, _⟩ := h; rfl) | (obtain ⟨_, _, _, _, rfl, _⟩ := h; rfl) | (obtain ⟨_, _, _, _, _, rfl, _⟩ := h; rfl) | (obtain ⟨_, _, _, _, _, _, rfl, _⟩ := h; rfl) | (obtain ⟨_, _, _, _, _, _, _, rfl, _⟩ := h; rfl)) (fun cdv hcd A outer s H E C px hr hG hw hx as Q h => by subst hw; exact ⟨_, d_places_read B g_MOST_PLACES hr hG hx , r_places_read px as Q h⟩)
theorem fn_entries_read {G : Around → Prop} (hGd : ∀ A env, G A → G (A.deeper env)) {P : Program} {w : World} {K : PySem.W.Frag} {mg : Str → Option Value} {base : Heap} {k : Nat} {wd : Wd} (B : Blt3 mg) (c_integer_read : Cal G P w K mg base k "integer_read" ["word"] wd F_integer_read) {f : Addr} {fd : FuncData} (F : L2.Fun K "entries_read" "entries_read" s_entries_read f fd) :
    FnR G P w K mg base (L2.CX P w) (k + 1) f fd ["line", "many"] (spD K wd F_entries_read) :=
  fnr_mk F sc_entries_read hGd (by intro as Q Z h; first | (obtain ⟨rfl, _⟩ := h; rfl) | (obtain ⟨_, rfl, _⟩ := h; rfl) | (obtain ⟨_, _, rfl, _⟩ := h; rfl) | (obtain ⟨_, _, _, rfl, _⟩ := h; rfl) | (obtain ⟨_, _, _, _, rfl, _⟩ := h; rfl) | (obtain ⟨_, _, _, _, _, rfl, _⟩ := h; rfl) | (obtain ⟨_, _, _, _, _, _, rfl, _⟩ := h; rfl) | (obtain ⟨_, _, _, _, _, _, _, rfl, _⟩ := h; rfl)) (fun cdv hcd A outer s H E C px hr hG hw hx as Q h => by subst hw; exact ⟨_, d_entries_read B hr hG hx c_integer_read, r_entries_read px as Q h⟩)
theorem fn_whole_table {G : Around → Prop} (hGd : ∀ A env, G A → G (A.deeper env)) {P : Program} {w : World} {K : PySem.W.Frag} {mg : Str → Option Value} {base : Heap} {k : Nat} {wd : Wd} (B : Blt3 mg)  {f : Addr} {fd : FuncData} (F : L2.Fun K "whole_table" "whole_table" s_whole_table f fd) :
    FnR G P w K mg base (L2.CX P w) (k + 1) f fd ["halves"] (spD K wd F_whole_table) :=
  fnr_mk F sc_whole_table hGd (by intro as Q Z h; first | (obtain ⟨rfl, _⟩ := h; rfl) | (obtain ⟨_, rfl, _⟩ := h; rfl) | (obtain ⟨_, _, rfl, _⟩ := h; rfl) | (obtain ⟨_, _, _, rfl, _⟩ := h; rfl) | (obtain ⟨_, _, _, _, rfl, _⟩ := h; rfl) | (obtain ⟨_, _, _, _, _, rfl, _⟩ := h; rfl) | (obtain ⟨_, _, _, _, _, _, rfl, _⟩ := h; rfl) | (obtain ⟨_, _, _, _, _, _, _, rfl, _⟩ := h; rfl)) (fun cdv hcd A outer s H E C px hr hG hw hx as Q h => by subst hw; exact ⟨_, d_whole_table B hr hG hx , r_whole_table px as Q h⟩)
theorem fn_read_table {G : Around → Prop} (hGd : ∀ A env, G A → G (A.deeper env)) {P : Program} {w : World} {K : PySem.W.Frag} {mg : Str → Option Value} {base : Heap} {k : Nat} {wd : Wd} (B : Blt3 mg) (c_places_read : Cal G P w K mg base k "places_read" ["line"] wd F_places_read) (c_entries_read : Cal G P w K mg base k "entries_read" ["line", "many"] wd F_entries_read) (c_whole_table : Cal G P w K mg base k "whole_table" ["halves"] wd F_whole_table) (r_BadText : Rs P w K mg base "BadText" "at" CX) (hk : 2 ≤ k) {f : Addr} {fd : FuncData} (F : L2.Fun K "read_table" "read_table" s_read_table f fd) :
    FnR G P w K mg base (L2.CX P w) (k + 1) f fd ["text"] (spD K wd F_read_table) :=
  fnr_mk F sc_read_table hGd (by intro as Q Z h; first | (obtain ⟨rfl, _⟩ := h; rfl) | (obtain ⟨_, rfl, _⟩ := h; rfl) | (obtain ⟨_, _, rfl, _⟩ := h; rfl) | (obtain ⟨_, _, _, rfl, _⟩ := h; rfl) | (obtain ⟨_, _, _, _, rfl, _⟩ := h; rfl) | (obtain ⟨_, _, _, _, _, rfl, _⟩ := h; rfl) | (obtain ⟨_, _, _, _, _, _, rfl, _⟩ := h; rfl) | (obtain ⟨_, _, _, _, _, _, _, rfl, _⟩ := h; rfl)) (fun cdv hcd A outer s H E C px hr hG hw hx as Q h => by subst hw; exact ⟨_, d_read_table B hr hG hx c_places_read c_entries_read c_whole_table r_BadText hk, r_read_table px as Q h⟩)
theorem fn_Lpick {G : Around → Prop} (hGd : ∀ A env, G A → G (A.deeper env)) {P : Program} {w : World} {K : PySem.W.Frag} {mg : Str → Option Value} {base : Heap} {k : Nat} {wd : Wd} (B : Blt3 mg) (c_Ldraw : Cal G P w K mg base k "_law_draw" ["_law_deck_here", "_law_many"] wd F_Ldraw) {f : Addr} {fd : FuncData} (F : L2.Fun K "_law_pick" "_law_pick" s_Lpick f fd) :
    FnR G P w K mg base (L2.CX P w) (k + 1) f fd ["_law_deck_here", "_law_some"] (spD K wd F_Lpick) :=
  fnr_mk F sc_Lpick hGd (by intro as Q Z h; first | (obtain ⟨rfl, _⟩ := h; rfl) | (obtain ⟨_, rfl, _⟩ := h; rfl) | (obtain ⟨_, _, rfl, _⟩ := h; rfl) | (obtain ⟨_, _, _, rfl, _⟩ := h; rfl) | (obtain ⟨_, _, _, _, rfl, _⟩ := h; rfl) | (obtain ⟨_, _, _, _, _, rfl, _⟩ := h; rfl) | (obtain ⟨_, _, _, _, _, _, rfl, _⟩ := h; rfl) | (obtain ⟨_, _, _, _, _, _, _, rfl, _⟩ := h; rfl)) (fun cdv hcd A outer s H E C px hr hG hw hx as Q h => by subst hw; exact ⟨_, d_Lpick B hr hG hx c_Ldraw, r_Lpick px as Q h⟩)
theorem fn_Lnumber {G : Around → Prop} (hGd : ∀ A env, G A → G (A.deeper env)) {P : Program} {w : World} {K : PySem.W.Frag} {mg : Str → Option Value} {base : Heap} {k : Nat} {wd : Wd} (B : Blt3 mg) (c_Ldraw : Cal G P w K mg base k "_law_draw" ["_law_deck_here", "_law_many"] wd F_Ldraw) (c_Lpick : Cal G P w K mg base k "_law_pick" ["_law_deck_here", "_law_some"] wd F_Lpick) {f : Addr} {fd : FuncData} (F : L2.Fun K "_law_number" "_law_number" s_Lnumber f fd) :
    FnR G P w K mg base (L2.CX P w) (k + 1) f fd ["_law_deck_here", "_law_way"] (spD K wd F_Lnumber) :=
  fnr_mk F sc_Lnumber hGd (by intro as Q Z h; first | (obtain ⟨rfl, _⟩ := h; rfl) | (obtain ⟨_, rfl, _⟩ := h; rfl) | (obtain ⟨_, _, rfl, _⟩ := h; rfl) | (obtain ⟨_, _, _, rfl, _⟩ := h; rfl) | (obtain ⟨_, _, _, _, rfl, _⟩ := h; rfl) | (obtain ⟨_, _, _, _, _, rfl, _⟩ := h; rfl) | (obtain ⟨_, _, _, _, _, _, rfl, _⟩ := h; rfl) | (obtain ⟨_, _, _, _, _, _, _, rfl, _⟩ := h; rfl)) (fun cdv hcd A outer s H E C px hr hG hw hx as Q h => by subst hw; exact ⟨_, d_Lnumber B hr hG hx c_Ldraw c_Lpick, r_Lnumber px as Q h⟩)
theorem fn_Ldrawn {G : Around → Prop} (hGd : ∀ A env, G A → G (A.deeper env)) {P : Program} {w : World} {K : PySem.W.Frag} {mg : Str → Option Value} {base : Heap} {k : Nat} {wd : Wd} (B : Blt3 mg) (c_Ldraw : Cal G P w K mg base k "_law_draw" ["_law_deck_here", "_law_many"] wd F_Ldraw) (c_Lnumber : Cal G P w K mg base k "_law_number" ["_law_deck_here", "_law_way"] wd F_Lnumber) {f : Addr} {fd : FuncData} (F : L2.Fun K "_law_drawn" "_law_drawn" s_Ldrawn f fd) :
    FnR G P w K mg base (L2.CX P w) (k + 1) f fd ["_law_deck_here", "_law_n"] (spD K wd F_Ldrawn) :=
  fnr_mk F sc_Ldrawn hGd (by intro as Q Z h; first | (obtain ⟨rfl, _⟩ := h; rfl) | (obtain ⟨_, rfl, _⟩ := h; rfl) | (obtain ⟨_, _, rfl, _⟩ := h; rfl) | (obtain ⟨_, _, _, rfl, _⟩ := h; rfl) | (obtain ⟨_, _, _, _, rfl, _⟩ := h; rfl) | (obtain ⟨_, _, _, _, _, rfl, _⟩ := h; rfl) | (obtain ⟨_, _, _, _, _, _, rfl, _⟩ := h; rfl) | (obtain ⟨_, _, _, _, _, _, _, rfl, _⟩ := h; rfl)) (fun cdv hcd A outer s H E C px hr hG hw hx as Q h => by subst hw; exact ⟨_, d_Ldrawn B hr hG hx c_Ldraw c_Lnumber, r_Ldrawn px as Q h⟩)
theorem fn_Ltext {G : Around → Prop} (hGd : ∀ A env, G A → G (A.deeper env)) {P : Program} {w : World} {K : PySem.W.Frag} {mg : Str → Option Value} {base : Heap} {k : Nat} {wd : Wd} (B : Blt3 mg)  {f : Addr} {fd : FuncData} (F : L2.Fun K "_law_text" "_law_text" s_Ltext f fd) :
    FnR G P w K mg base (L2.CX P w) (k + 1) f fd ["_law_own"] (spD K wd F_Ltext) :=
  fnr_mk F sc_Ltext hGd (by intro as Q Z h; first | (obtain ⟨rfl, _⟩ := h; rfl) | (obtain ⟨_, rfl, _⟩ := h; rfl) | (obtain ⟨_, _, rfl, _⟩ := h; rfl) | (obtain ⟨_, _, _, rfl, _⟩ := h; rfl) | (obtain ⟨_, _, _, _, rfl, _⟩ := h; rfl) | (obtain ⟨_, _, _, _, _, rfl, _⟩ := h; rfl) | (obtain ⟨_, _, _, _, _, _, rfl, _⟩ := h; rfl) | (obtain ⟨_, _, _, _, _, _, _, rfl, _⟩ := h; rfl)) (fun cdv hcd A outer s H E C px hr hG hw hx as Q h => by subst hw; exact ⟨_, d_Ltext B hr hG hx , r_Ltext px as Q h⟩)
theorem fn_Lbent {G : Around → Prop} (hGd : ∀ A env, G A → G (A.deeper env)) {P : Program} {w : World} {K : PySem.W.Frag} {mg : Str → Option Value} {base : Heap} {k : Nat} {wd : Wd} (B : Blt3 mg) (c_Ldraw : Cal G P w K mg base k "_law_draw" ["_law_deck_here", "_law_many"] wd F_Ldraw) (c_Lpick : Cal G P w K mg base k "_law_pick" ["_law_deck_here", "_law_some"] wd F_Lpick) {f : Addr} {fd : FuncData} (F : L2.Fun K "_law_bent" "_law_bent" s_Lbent f fd) :
    FnR G P w K mg base (L2.CX P w) (k + 1) f fd ["_law_deck_here", "_law_text_here"] (spD K wd F_Lbent) :=
  fnr_mk F sc_Lbent hGd (by intro as Q Z h; first | (obtain ⟨rfl, _⟩ := h; rfl) | (obtain ⟨_, rfl, _⟩ := h; rfl) | (obtain ⟨_, _, rfl, _⟩ := h; rfl) | (obtain ⟨_, _, _, rfl, _⟩ := h; rfl) | (obtain ⟨_, _, _, _, rfl, _⟩ := h; rfl) | (obtain ⟨_, _, _, _, _, rfl, _⟩ := h; rfl) | (obtain ⟨_, _, _, _, _, _, rfl, _⟩ := h; rfl) | (obtain ⟨_, _, _, _, _, _, _, rfl, _⟩ := h; rfl)) (fun cdv hcd A outer s H E C px hr hG hw hx as Q h => by subst hw; exact ⟨_, d_Lbent B hr hG hx c_Ldraw c_Lpick, r_Lbent px as Q h⟩)
theorem fn_Lis_number {G : Around → Prop} (hGd : ∀ A env, G A → G (A.deeper env)) {P : Program} {w : World} {K : PySem.W.Frag} {mg : Str → Option Value} {base : Heap} {k : Nat} {wd : Wd} (B : Blt3 mg)  {f : Addr} {fd : FuncData} (F : L2.Fun K "_law_is_number" "_law_is_number" s_Lis_number f fd) :
    FnR G P w K mg base (L2.CX P w) (k + 1) f fd ["_law_word"] (spD K wd F_Lis_number) :=
  fnr_mk F sc_Lis_number hGd (by intro as Q Z h; first | (obtain ⟨rfl, _⟩ := h; rfl) | (obtain ⟨_, rfl, _⟩ := h; rfl) | (obtain ⟨_, _, rfl, _⟩ := h; rfl) | (obtain ⟨_, _, _, rfl, _⟩ := h; rfl) | (obtain ⟨_, _, _, _, rfl, _⟩ := h; rfl) | (obtain ⟨_, _, _, _, _, rfl, _⟩ := h; rfl) | (obtain ⟨_, _, _, _, _, _, rfl, _⟩ := h; rfl) | (obtain ⟨_, _, _, _, _, _, _, rfl, _⟩ := h; rfl)) (fun cdv hcd A outer s H E C px hr hG hw hx as Q h => by subst hw; exact ⟨_, d_Lis_number B hr hG hx , r_Lis_number px as Q h⟩)
theorem fn_Lis_long {G : Around → Prop} (hGd : ∀ A env, G A → G (A.deeper env)) {P : Program} {w : World} {K : PySem.W.Frag} {mg : Str → Option Value} {base : Heap} {k : Nat} {wd : Wd} (B : Blt3 mg)  {f : Addr} {fd : FuncData} (F : L2.Fun K "_law_is_long" "_law_is_long" s_Lis_long f fd) :
    FnR G P w K mg base (L2.CX P w) (k + 1) f fd ["_law_text_here"] (spD K wd F_Lis_long) :=
  fnr_mk F sc_Lis_long hGd (by intro as Q Z h; first | (obtain ⟨rfl, _⟩ := h; rfl) | (obtain ⟨_, rfl, _⟩ := h; rfl) | (obtain ⟨_, _, rfl, _⟩ := h; rfl) | (obtain ⟨_, _, _, rfl, _⟩ := h; rfl) | (obtain ⟨_, _, _, _, rfl, _⟩ := h; rfl) | (obtain ⟨_, _, _, _, _, rfl, _⟩ := h; rfl) | (obtain ⟨_, _, _, _, _, _, rfl, _⟩ := h; rfl) | (obtain ⟨_, _, _, _, _, _, _, rfl, _⟩ := h; rfl)) (fun cdv hcd A outer s H E C px hr hG hw hx as Q h => by subst hw; exact ⟨_, d_Lis_long B hr hG hx , r_Lis_long px as Q h⟩)
theorem fn_Lread {G : Around → Prop} (hGd : ∀ A env, G A → G (A.deeper env)) {P : Program} {w : World} {K : PySem.W.Frag} {mg : Str → Option Value} {base : Heap} {k : Nat} {wd : Wd} (B : Blt3 mg) (c_Lis_number : Cal G P w K mg base k "_law_is_number" ["_law_word"] wd F_Lis_number) {f : Addr} {fd : FuncData} (F : L2.Fun K "_law_read" "_law_read" s_Lread f fd) :
    FnR G P w K mg base (L2.CX P w) (k + 1) f fd ["_law_text_here"] (spD K wd F_Lread) :=
  fnr_mk F sc_Lread hGd (by intro as Q Z h; first | (obtain ⟨rfl, _⟩ := h; rfl) | (obtain ⟨_, rfl, _⟩ := h; rfl) | (obtain ⟨_, _, rfl, _⟩ := h; rfl) | (obtain ⟨_, _, _, rfl, _⟩ := h; rfl) | (obtain ⟨_, _, _, _, rfl, _⟩ := h; rfl) | (obtain ⟨_, _, _, _, _, rfl, _⟩ := h; rfl) | (obtain ⟨_, _, _, _, _, _, rfl, _⟩ := h; rfl) | (obtain ⟨_, _, _, _, _, _, _, rfl, _⟩ := h; rfl)) (fun cdv hcd A outer s H E C px hr hG hw hx as Q h => by subst hw; exact ⟨_, d_Lread B hr hG hx c_Lis_number, r_Lread px as Q h⟩)
theorem fn_Lis_read {P : Program} {w : World} {K : PySem.W.Frag} {mg : Str → Option Value} {base : Heap} {k : Nat} {wd : Wd} (B : Blt3 mg) (l_read_table : Cal Tru P w K mg base (k - 2) "read_table" ["text"] wd F_read_table) (l_text_of : Cal Tru P w K mg base (k - 2) "text_of" ["table"] wd F_text_of) (q_read_table : CalK Tru P w K mg base (k - 2) "read_table" ["text"] ["text"] [0] wd F_read_table) (hk2 : 2 ≤ k) (TO : TOF K mg) {cc PP : Addr} (TB : LamX.TabB base mg cc PP) (hmem : (PP, ("_law_is_read" : Str) ++ ".<locals>." ++ "<lambda>") ∈ wd.T) (huni : ∀ p ∈ wd.T, p.1 = PP → p.2 = ("_law_is_read" : Str) ++ ".<locals>." ++ "<lambda>") (c_Lread : Cal NoGu P w K mg base k "_law_read" ["_law_text_here"] wd F_Lread) {f : Addr} {fd : FuncData} (F : L2.Fun K "_law_is_read" "_law_is_read" s_Lis_read f fd) (hc : fd.code = .ref cc) :
    FnR NoGu P w K mg base (L2.CX P w) (k + 1) f fd ["_law_text_here", "_law_way"] (spD K wd F_Lis_read) :=
  fnr_mk F sc_Lis_read noGu_deeper (by intro as Q Z h; first | (obtain ⟨rfl, _⟩ := h; rfl) | (obtain ⟨_, rfl, _⟩ := h; rfl) | (obtain ⟨_, _, rfl, _⟩ := h; rfl) | (obtain ⟨_, _, _, rfl, _⟩ := h; rfl) | (obtain ⟨_, _, _, _, rfl, _⟩ := h; rfl) | (obtain ⟨_, _, _, _, _, rfl, _⟩ := h; rfl) | (obtain ⟨_, _, _, _, _, _, rfl, _⟩ := h; rfl) | (obtain ⟨_, _, _, _, _, _, _, rfl, _⟩ := h; rfl)) (fun cdv hcd A outer s H E C px hr hG hw hx as Q h => by subst hw; exact ⟨_, d_Lis_read B hr hG hx l_read_table l_text_of q_read_table hk2 TO ⟨TB, hcd.symm.trans hc, hmem, huni⟩ c_Lread, r_Lis_read px as Q h⟩)
end Z

namespace Z
open PySem PySem.Spec PyProof.Rows L2 DL
section
variable {G : Around → Prop} {P : Program} {w : World} {K : PySem.W.Frag} {mg : Str → Option Value} {base : Heap} {k : Nat} {wd : Wd}
theorem cal_draw {T : List (Addr × Str)} (B : Blt3 mg) (D : Df K mg "_law_draw" sDraw ["_law_deck_here", "_law_many"]) : Cal G P w K mg base 1 "_law_draw" ["_law_deck_here", "_law_many"] ⟨"cells", "mixed", "draws", T⟩ F_Ldraw :=
  cal_of D fun f fd F => FnR.of (ok_draw T F B.toBlt)
end
/-! ### the law itself, from the script on -/
section
variable {P : Program} {w : World} {K : PySem.W.Frag} {mg : Str → Option Value} {base : Heap} {k : Nat}
theorem fn_law {T : List (Addr × Str)} (B : Blt3 mg) (DD : Df K mg "_law_deck" sDeck ["_law_script"]) (hk : 1 ≤ k)
    (l_text_of : Cal Tru P w K mg base (k - 2) "text_of" ["table"] ⟨"cells", "mixed", "draws", T⟩ F_text_of) (q_text_of : CalK Tru P w K mg base (k - 2) "text_of" ["table"] ["table"] [0] ⟨"cells", "mixed", "draws", T⟩ F_text_of) (hk2 : 2 ≤ k) (TO : TOF K mg) {cc PP : Addr} (TB : LamX.TabB base mg cc PP) (hmem : (PP, ("law" : Str) ++ ".<locals>." ++ "<lambda>") ∈ T) (huni : ∀ p ∈ T, p.1 = PP → p.2 = ("law" : Str) ++ ".<locals>." ++ "<lambda>") (c_Ldrawn : Cal NoGu P w K mg base k "_law_drawn" ["_law_deck_here", "_law_n"] ⟨"cells", "mixed", "draws", T⟩ F_Ldrawn) (c_Ldraw : Cal NoGu P w K mg base k "_law_draw" ["_law_deck_here", "_law_many"] ⟨"cells", "mixed", "draws", T⟩ F_Ldraw) (c_Ltext : Cal NoGu P w K mg base k "_law_text" ["_law_own"] ⟨"cells", "mixed", "draws", T⟩ F_Ltext) (c_Lis_read : Cal NoGu P w K mg base k "_law_is_read" ["_law_text_here", "_law_way"] ⟨"cells", "mixed", "draws", T⟩ F_Lis_read) (c_Lbent : Cal NoGu P w K mg base k "_law_bent" ["_law_deck_here", "_law_text_here"] ⟨"cells", "mixed", "draws", T⟩ F_Lbent) (c_Lis_long : Cal NoGu P w K mg base k "_law_is_long" ["_law_text_here"] ⟨"cells", "mixed", "draws", T⟩ F_Lis_long) (c_Lpick : Cal NoGu P w K mg base k "_law_pick" ["_law_deck_here", "_law_some"] ⟨"cells", "mixed", "draws", T⟩ F_Lpick)
    {f : Addr} {fd : FuncData} (F : L2.Fun K "law" "law" s_law f fd) (hc : fd.code = .ref cc) : FnR NoGu P w K mg base (L2.CX P w) (k + 1) f fd ["_law_script"] (spLaw K T) := by
  obtain ⟨f17, fd17, F17, hm17, hb17⟩ := DD.ex
  refine fnr_raw2 F sc_law noGu_deeper (fun vs H Q E ⟨a, ns, e, _⟩ => by rw [e]; rfl) fun cdv hcd A outer s H vs Q E hr hG ⟨a, ns, e, hS, hl, hT, hsys, hq⟩ => ?_
  subst e
  have hcd := hcd.symm
  have nd := sc_law.nd
  have FD : FnR Tru P w K mg base (L2.CX P w) 1 f17 fd17 ["_law_script"] (spDeck K ⟨"cells", "mixed", "draws", []⟩) := FnR.of (ok_deck F17 B.toBlt)
  have hx : ∀ C : Ct, XO (cxOf (L2.CX P w) P w K mg base n_law "law" (defScope s_law) f cdv A outer s H E) C never (L2.CX P w) E := fun C => ⟨fun pins σ H1 s1 e s' I c => passes_call (L2.takes_of rfl rfl rfl rfl) (fun _ _ _ _ h => h) pins σ H1 s1 e s' I c, fun _ _ _ h => h.elim⟩
  have DW := fun i : { C : Ct // C.q.w = ⟨"cells", "mixed", "draws", T⟩ } => d_law (C := i.1) (px := never) B hr hG (hx i.1) (i.2.symm ▸ l_text_of) (i.2.symm ▸ q_text_of) hk2 TO ⟨TB, hcd.trans hc, i.2.symm ▸ hmem, i.2.symm ▸ huni⟩ (i.2.symm ▸ c_Ldrawn) (i.2.symm ▸ c_Ldraw) (i.2.symm ▸ c_Ltext) (i.2.symm ▸ c_Lis_read) (i.2.symm ▸ c_Lbent) (i.2.symm ▸ c_Lis_long) (i.2.symm ▸ c_Lpick)
  refine ⟨_, pss_cons (ps_set (i := 1) nd rfl (by first | exact .inl rfl | exact .inr rfl) (pe_callR FD (hr.mono hk) True.intro (by rfl) hm17 F17.kp hb17 .nil passL (pa_cons (pv 0) pa_nil)))
    (pss_any fun i => (DW i).run), ?_⟩
  refine ⟨.ref a, rfl, a, ns, rfl, hS, hl, fun p l cells m H' sm np nl pl hc dk tbls => ?_⟩
  refine ⟨⟨⟨⟨⟨"cells", "mixed", "draws", T⟩, p, l⟩, H', fun _ => False⟩, rfl⟩, fun _ => False, fun _ => [], [.un, .deck, .un, .un, .un, .un, .un, .un, .un, .un, .un, .un, .un], ?_, ?_⟩
  · refine ⟨Nat.le_refl 13, ?_, fun p hp => LamX.TabS.nil (sm _ _ (hT p hp)), fun _ h => h.elim, KpX.refl _ _, fun _ h => h.elim, fun _ h => h.elim, fun i sl e => ?_, fun i b hb => (by cases hb), fun i j _ b hb => (by cases hb)⟩
    · obtain ⟨o, φ, es⟩ := hsys
      exact ⟨cells, m, 0, dk.1, dk.2, hc, o, φ, sm _ _ es⟩
    · match i, e with
      | 0, e => cases e; exact True.intro
      | 1, e => cases e; exact rfl
      | i + 2, e =>
        have hm := List.mem_of_getElem? (show ([.un, .un, .un, .un, .un, .un, .un, .un, .un, .un, .un] : List Slot)[i]? = some sl from e)
        simp only [List.mem_cons, List.not_mem_nil, or_false, or_self] at hm
        subst hm
        exact True.intro
  · refine (DW ⟨⟨⟨⟨"cells", "mixed", "draws", T⟩, p, l⟩, H', fun _ => False⟩, rfl⟩).mono { nx := fun _ => (fun d => d = .bool true) PyData.none, rt := fun d => d = .bool true } _ _ ⟨fun _ h => (by cases h), fun d hd v F' O' ρ' σ' H2 s R r => ?_, fun _ h => h.elim, fun _ h => h.elim⟩ (r_law never (fun d => d = .bool true) .un rfl)
    subst hd
    cases (show v = .bl true from r)
    exact hq H2
end
end Z

namespace Z
open PySem PySem.Spec PyProof.Rows L2 DL
/-! ### what the top has written -/
section
variable {K : PySem.W.Frag} {h : Heap} {mg : Str → Option Value} {f : Addr} {od an : Option Addr} {osl : Array (Option Value)} {oc kV dc pm cd ct : Value}
theorem df_is_whole (X : K.In h) (G : h.Ns mainGlobals mg) (a : PySem.W.nsIn K mainGlobals "is_whole" = some (some (.ref f))) (l : K.lookup f = some ⟨oc, od, .func (PySem.W.fnOf "is_whole" "is_whole" (defArgs s_is_whole) (defBody s_is_whole) (defScope s_is_whole) .none kV dc pm an cd ct), osl⟩) (c : PySem.W.codeIn K cd "is_whole" = true) (k : PySem.W.keepIn K (.ref f) = true) : Df K mg "is_whole" s_is_whole ["thing"] :=
  ⟨_, _, fun_mk (st := s_is_whole) l c k, PySem.W.mg_of X G a, (fun_mk (st := s_is_whole) l c k).binds (ps := ["thing"]) fun _ _ _ _ _ _ us hl => match us, hl with | [_], _ => rfl⟩
theorem df_are_whole (X : K.In h) (G : h.Ns mainGlobals mg) (a : PySem.W.nsIn K mainGlobals "are_whole" = some (some (.ref f))) (l : K.lookup f = some ⟨oc, od, .func (PySem.W.fnOf "are_whole" "are_whole" (defArgs s_are_whole) (defBody s_are_whole) (defScope s_are_whole) .none kV dc pm an cd ct), osl⟩) (c : PySem.W.codeIn K cd "are_whole" = true) (k : PySem.W.keepIn K (.ref f) = true) : Df K mg "are_whole" s_are_whole ["thing"] :=
  ⟨_, _, fun_mk (st := s_are_whole) l c k, PySem.W.mg_of X G a, (fun_mk (st := s_are_whole) l c k).binds (ps := ["thing"]) fun _ _ _ _ _ _ us hl => match us, hl with | [_], _ => rfl⟩
theorem df_is_table_value (X : K.In h) (G : h.Ns mainGlobals mg) (a : PySem.W.nsIn K mainGlobals "is_table_value" = some (some (.ref f))) (l : K.lookup f = some ⟨oc, od, .func (PySem.W.fnOf "is_table_value" "is_table_value" (defArgs s_is_table_value) (defBody s_is_table_value) (defScope s_is_table_value) .none kV dc pm an cd ct), osl⟩) (c : PySem.W.codeIn K cd "is_table_value" = true) (k : PySem.W.keepIn K (.ref f) = true) : Df K mg "is_table_value" s_is_table_value ["thing", "most"] :=
  ⟨_, _, fun_mk (st := s_is_table_value) l c k, PySem.W.mg_of X G a, (fun_mk (st := s_is_table_value) l c k).binds (ps := ["thing", "most"]) fun _ _ _ _ _ _ us hl => match us, hl with | [_, _], _ => rfl⟩
theorem df_need_table (X : K.In h) (G : h.Ns mainGlobals mg) (a : PySem.W.nsIn K mainGlobals "need_table" = some (some (.ref f))) (l : K.lookup f = some ⟨oc, od, .func (PySem.W.fnOf "need_table" "need_table" (defArgs s_need_table) (defBody s_need_table) (defScope s_need_table) .none kV dc pm an cd ct), osl⟩) (c : PySem.W.codeIn K cd "need_table" = true) (k : PySem.W.keepIn K (.ref f) = true) : Df K mg "need_table" s_need_table ["thing"] :=
  ⟨_, _, fun_mk (st := s_need_table) l c k, PySem.W.mg_of X G a, (fun_mk (st := s_need_table) l c k).binds (ps := ["thing"]) fun _ _ _ _ _ _ us hl => match us, hl with | [_], _ => rfl⟩
theorem df_table_lines (X : K.In h) (G : h.Ns mainGlobals mg) (a : PySem.W.nsIn K mainGlobals "table_lines" = some (some (.ref f))) (l : K.lookup f = some ⟨oc, od, .func (PySem.W.fnOf "table_lines" "table_lines" (defArgs s_table_lines) (defBody s_table_lines) (defScope s_table_lines) .none kV dc pm an cd ct), osl⟩) (c : PySem.W.codeIn K cd "table_lines" = true) (k : PySem.W.keepIn K (.ref f) = true) : Df K mg "table_lines" s_table_lines ["table"] :=
  ⟨_, _, fun_mk (st := s_table_lines) l c k, PySem.W.mg_of X G a, (fun_mk (st := s_table_lines) l c k).binds (ps := ["table"]) fun _ _ _ _ _ _ us hl => match us, hl with | [_], _ => rfl⟩
theorem df_text_of (X : K.In h) (G : h.Ns mainGlobals mg) (a : PySem.W.nsIn K mainGlobals "text_of" = some (some (.ref f))) (l : K.lookup f = some ⟨oc, od, .func (PySem.W.fnOf "text_of" "text_of" (defArgs s_text_of) (defBody s_text_of) (defScope s_text_of) .none kV dc pm an cd ct), osl⟩) (c : PySem.W.codeIn K cd "text_of" = true) (k : PySem.W.keepIn K (.ref f) = true) : Df K mg "text_of" s_text_of ["table"] :=
  ⟨_, _, fun_mk (st := s_text_of) l c k, PySem.W.mg_of X G a, (fun_mk (st := s_text_of) l c k).binds (ps := ["table"]) fun _ _ _ _ _ _ us hl => match us, hl with | [_], _ => rfl⟩
theorem dk_text_of (X : K.In h) (G : h.Ns mainGlobals mg) (a : PySem.W.nsIn K mainGlobals "text_of" = some (some (.ref f))) (l : K.lookup f = some ⟨oc, od, .func (PySem.W.fnOf "text_of" "text_of" (defArgs s_text_of) (defBody s_text_of) (defScope s_text_of) .none kV dc pm an cd ct), osl⟩) (c : PySem.W.codeIn K cd "text_of" = true) (k : PySem.W.keepIn K (.ref f) = true) : DfK K mg "text_of" s_text_of ["table"] ["table"] [0] :=
  ⟨_, _, fun_mk (st := s_text_of) l c k, PySem.W.mg_of X G a, fun s ws hl => match ws, hl with | [_], _ => .of_eq rfl⟩
theorem df_integer_read (X : K.In h) (G : h.Ns mainGlobals mg) (a : PySem.W.nsIn K mainGlobals "integer_read" = some (some (.ref f))) (l : K.lookup f = some ⟨oc, od, .func (PySem.W.fnOf "integer_read" "integer_read" (defArgs s_integer_read) (defBody s_integer_read) (defScope s_integer_read) .none kV dc pm an cd ct), osl⟩) (c : PySem.W.codeIn K cd "integer_read" = true) (k : PySem.W.keepIn K (.ref f) = true) : Df K mg "integer_read" s_integer_read ["word"] :=
  ⟨_, _, fun_mk (st := s_integer_read) l c k, PySem.W.mg_of X G a, (fun_mk (st := s_integer_read) l c k).binds (ps := ["word"]) fun _ _ _ _ _ _ us hl => match us, hl with | [_], _ => rfl⟩
theorem df_places_read (X : K.In h) (G : h.Ns mainGlobals mg) (a : PySem.W.nsIn K mainGlobals "places_read" = some (some (.ref f))) (l : K.lookup f = some ⟨oc, od, .func (PySem.W.fnOf "places_read" "places_read" (defArgs s_places_read) (defBody s_places_read) (defScope s_places_read) .none kV dc pm an cd ct), osl⟩) (c : PySem.W.codeIn K cd "places_read" = true) (k : PySem.W.keepIn K (.ref f) = true) : Df K mg "places_read" s_places_read ["line"] :=
  ⟨_, _, fun_mk (st := s_places_read) l c k, PySem.W.mg_of X G a, (fun_mk (st := s_places_read) l c k).binds (ps := ["line"]) fun _ _ _ _ _ _ us hl => match us, hl with | [_], _ => rfl⟩
theorem df_entries_read (X : K.In h) (G : h.Ns mainGlobals mg) (a : PySem.W.nsIn K mainGlobals "entries_read" = some (some (.ref f))) (l : K.lookup f = some ⟨oc, od, .func (PySem.W.fnOf "entries_read" "entries_read" (defArgs s_entries_read) (defBody s_entries_read) (defScope s_entries_read) .none kV dc pm an cd ct), osl⟩) (c : PySem.W.codeIn K cd "entries_read" = true) (k : PySem.W.keepIn K (.ref f) = true) : Df K mg "entries_read" s_entries_read ["line", "many"] :=
  ⟨_, _, fun_mk (st := s_entries_read) l c k, PySem.W.mg_of X G a, (fun_mk (st := s_entries_read) l c k).binds (ps := ["line", "many"]) fun _ _ _ _ _ _ us hl => match us, hl with | [_, _], _ => rfl⟩
theorem df_whole_table (X : K.In h) (G : h.Ns mainGlobals mg) (a : PySem.W.nsIn K mainGlobals "whole_table" = some (some (.ref f))) (l : K.lookup f = some ⟨oc, od, .func (PySem.W.fnOf "whole_table" "whole_table" (defArgs s_whole_table) (defBody s_whole_table) (defScope s_whole_table) .none kV dc pm an cd ct), osl⟩) (c : PySem.W.codeIn K cd "whole_table" = true) (k : PySem.W.keepIn K (.ref f) = true) : Df K mg "whole_table" s_whole_table ["halves"] :=
  ⟨_, _, fun_mk (st := s_whole_table) l c k, PySem.W.mg_of X G a, (fun_mk (st := s_whole_table) l c k).binds (ps := ["halves"]) fun _ _ _ _ _ _ us hl => match us, hl with | [_], _ => rfl⟩
theorem df_read_table (X : K.In h) (G : h.Ns mainGlobals mg) (a : PySem.W.nsIn K mainGlobals "read_table" = some (some (.ref f))) (l : K.lookup f = some ⟨oc, od, .func (PySem.W.fnOf "read_table" "read_table" (defArgs s_read_table) (defBody s_read_table) (defScope s_read_table) .none kV dc pm an cd ct), osl⟩) (c : PySem.W.codeIn K cd "read_table" = true) (k : PySem.W.keepIn K (.ref f) = true) : Df K mg "read_table" s_read_table ["text"] :=
  ⟨_, _, fun_mk (st := s_read_table) l c k, PySem.W.mg_of X G a, (fun_mk (st := s_read_table) l c k).binds (ps := ["text"]) fun _ _ _ _ _ _ us hl => match us, hl with | [_], _ => rfl⟩
theorem dk_read_table (X : K.In h) (G : h.Ns mainGlobals mg) (a : PySem.W.nsIn K mainGlobals "read_table" = some (some (.ref f))) (l : K.lookup f = some ⟨oc, od, .func (PySem.W.fnOf "read_table" "read_table" (defArgs s_read_table) (defBody s_read_table) (defScope s_read_table) .none kV dc pm an cd ct), osl⟩) (c : PySem.W.codeIn K cd "read_table" = true) (k : PySem.W.keepIn K (.ref f) = true) : DfK K mg "read_table" s_read_table ["text"] ["text"] [0] :=
  ⟨_, _, fun_mk (st := s_read_table) l c k, PySem.W.mg_of X G a, fun s ws hl => match ws, hl with | [_], _ => .of_eq rfl⟩
theorem df_Ldeck (X : K.In h) (G : h.Ns mainGlobals mg) (a : PySem.W.nsIn K mainGlobals "_law_deck" = some (some (.ref f))) (l : K.lookup f = some ⟨oc, od, .func (PySem.W.fnOf "_law_deck" "_law_deck" (defArgs sDeck) (defBody sDeck) (defScope sDeck) .none kV dc pm an cd ct), osl⟩) (c : PySem.W.codeIn K cd "_law_deck" = true) (k : PySem.W.keepIn K (.ref f) = true) : Df K mg "_law_deck" sDeck ["_law_script"] :=
  ⟨_, _, fun_mk (st := sDeck) l c k, PySem.W.mg_of X G a, (fun_mk (st := sDeck) l c k).binds (ps := ["_law_script"]) fun _ _ _ _ _ _ us hl => match us, hl with | [_], _ => rfl⟩
theorem df_Ldraw (X : K.In h) (G : h.Ns mainGlobals mg) (a : PySem.W.nsIn K mainGlobals "_law_draw" = some (some (.ref f))) (l : K.lookup f = some ⟨oc, od, .func (PySem.W.fnOf "_law_draw" "_law_draw" (defArgs sDraw) (defBody sDraw) (defScope sDraw) .none kV dc pm an cd ct), osl⟩) (c : PySem.W.codeIn K cd "_law_draw" = true) (k : PySem.W.keepIn K (.ref f) = true) : Df K mg "_law_draw" sDraw ["_law_deck_here", "_law_many"] :=
  ⟨_, _, fun_mk (st := sDraw) l c k, PySem.W.mg_of X G a, (fun_mk (st := sDraw) l c k).binds (ps := ["_law_deck_here", "_law_many"]) fun _ _ _ _ _ _ us hl => match us, hl with | [_, _], _ => rfl⟩
theorem df_Lpick (X : K.In h) (G : h.Ns mainGlobals mg) (a : PySem.W.nsIn K mainGlobals "_law_pick" = some (some (.ref f))) (l : K.lookup f = some ⟨oc, od, .func (PySem.W.fnOf "_law_pick" "_law_pick" (defArgs s_Lpick) (defBody s_Lpick) (defScope s_Lpick) .none kV dc pm an cd ct), osl⟩) (c : PySem.W.codeIn K cd "_law_pick" = true) (k : PySem.W.keepIn K (.ref f) = true) : Df K mg "_law_pick" s_Lpick ["_law_deck_here", "_law_some"] :=
  ⟨_, _, fun_mk (st := s_Lpick) l c k, PySem.W.mg_of X G a, (fun_mk (st := s_Lpick) l c k).binds (ps := ["_law_deck_here", "_law_some"]) fun _ _ _ _ _ _ us hl => match us, hl with | [_, _], _ => rfl⟩
theorem df_Lnumber (X : K.In h) (G : h.Ns mainGlobals mg) (a : PySem.W.nsIn K mainGlobals "_law_number" = some (some (.ref f))) (l : K.lookup f = some ⟨oc, od, .func (PySem.W.fnOf "_law_number" "_law_number" (defArgs s_Lnumber) (defBody s_Lnumber) (defScope s_Lnumber) .none kV dc pm an cd ct), osl⟩) (c : PySem.W.codeIn K cd "_law_number" = true) (k : PySem.W.keepIn K (.ref f) = true) : Df K mg "_law_number" s_Lnumber ["_law_deck_here", "_law_way"] :=
  ⟨_, _, fun_mk (st := s_Lnumber) l c k, PySem.W.mg_of X G a, (fun_mk (st := s_Lnumber) l c k).binds (ps := ["_law_deck_here", "_law_way"]) fun _ _ _ _ _ _ us hl => match us, hl with | [_, _], _ => rfl⟩
theorem df_Ldrawn (X : K.In h) (G : h.Ns mainGlobals mg) (a : PySem.W.nsIn K mainGlobals "_law_drawn" = some (some (.ref f))) (l : K.lookup f = some ⟨oc, od, .func (PySem.W.fnOf "_law_drawn" "_law_drawn" (defArgs s_Ldrawn) (defBody s_Ldrawn) (defScope s_Ldrawn) .none kV dc pm an cd ct), osl⟩) (c : PySem.W.codeIn K cd "_law_drawn" = true) (k : PySem.W.keepIn K (.ref f) = true) : Df K mg "_law_drawn" s_Ldrawn ["_law_deck_here", "_law_n"] :=
  ⟨_, _, fun_mk (st := s_Ldrawn) l c k, PySem.W.mg_of X G a, (fun_mk (st := s_Ldrawn) l c k).binds (ps := ["_law_deck_here", "_law_n"]) fun _ _ _ _ _ _ us hl => match us, hl with | [_, _], _ => rfl⟩
theorem df_Ltext (X : K.In h) (G : h.Ns mainGlobals mg) (a : PySem.W.nsIn K mainGlobals "_law_text" = some (some (.ref f))) (l : K.lookup f = some ⟨oc, od, .func (PySem.W.fnOf "_law_text" "_law_text" (defArgs s_Ltext) (defBody s_Ltext) (defScope s_Ltext) .none kV dc pm an cd ct), osl⟩) (c : PySem.W.codeIn K cd "_law_text" = true) (k : PySem.W.keepIn K (.ref f) = true) : Df K mg "_law_text" s_Ltext ["_law_own"] :=
  ⟨_, _, fun_mk (st := s_Ltext) l c k, PySem.W.mg_of X G a, (fun_mk (st := s_Ltext) l c k).binds (ps := ["_law_own"]) fun _ _ _ _ _ _ us hl => match us, hl with | [_], _ => rfl⟩
theorem df_Lbent (X : K.In h) (G : h.Ns mainGlobals mg) (a : PySem.W.nsIn K mainGlobals "_law_bent" = some (some (.ref f))) (l : K.lookup f = some ⟨oc, od, .func (PySem.W.fnOf "_law_bent" "_law_bent" (defArgs s_Lbent) (defBody s_Lbent) (defScope s_Lbent) .none kV dc pm an cd ct), osl⟩) (c : PySem.W.codeIn K cd "_law_bent" = true) (k : PySem.W.keepIn K (.ref f) = true) : Df K mg "_law_bent" s_Lbent ["_law_deck_here", "_law_text_here"] :=
  ⟨_, _, fun_mk (st := s_Lbent) l c k, PySem.W.mg_of X G a, (fun_mk (st := s_Lbent) l c k).binds (ps := ["_law_deck_here", "_law_text_here"]) fun _ _ _ _ _ _ us hl => match us, hl with | [_, _], _ => rfl⟩
theorem df_Lis_number (X : K.In h) (G : h.Ns mainGlobals mg) (a : PySem.W.nsIn K mainGlobals "_law_is_number" = some (some (.ref f))) (l : K.lookup f = some ⟨oc, od, .func (PySem.W.fnOf "_law_is_number" "_law_is_number" (defArgs s_Lis_number) (defBody s_Lis_number) (defScope s_Lis_number) .none kV dc pm an cd ct), osl⟩) (c : PySem.W.codeIn K cd "_law_is_number" = true) (k : PySem.W.keepIn K (.ref f) = true) : Df K mg "_law_is_number" s_Lis_number ["_law_word"] :=
  ⟨_, _, fun_mk (st := s_Lis_number) l c k, PySem.W.mg_of X G a, (fun_mk (st := s_Lis_number) l c k).binds (ps := ["_law_word"]) fun _ _ _ _ _ _ us hl => match us, hl with | [_], _ => rfl⟩
theorem df_Lis_long (X : K.In h) (G : h.Ns mainGlobals mg) (a : PySem.W.nsIn K mainGlobals "_law_is_long" = some (some (.ref f))) (l : K.lookup f = some ⟨oc, od, .func (PySem.W.fnOf "_law_is_long" "_law_is_long" (defArgs s_Lis_long) (defBody s_Lis_long) (defScope s_Lis_long) .none kV dc pm an cd ct), osl⟩) (c : PySem.W.codeIn K cd "_law_is_long" = true) (k : PySem.W.keepIn K (.ref f) = true) : Df K mg "_law_is_long" s_Lis_long ["_law_text_here"] :=
  ⟨_, _, fun_mk (st := s_Lis_long) l c k, PySem.W.mg_of X G a, (fun_mk (st := s_Lis_long) l c k).binds (ps := ["_law_text_here"]) fun _ _ _ _ _ _ us hl => match us, hl with | [_], _ => rfl⟩
theorem df_Lread (X : K.In h) (G : h.Ns mainGlobals mg) (a : PySem.W.nsIn K mainGlobals "_law_read" = some (some (.ref f))) (l : K.lookup f = some ⟨oc, od, .func (PySem.W.fnOf "_law_read" "_law_read" (defArgs s_Lread) (defBody s_Lread) (defScope s_Lread) .none kV dc pm an cd ct), osl⟩) (c : PySem.W.codeIn K cd "_law_read" = true) (k : PySem.W.keepIn K (.ref f) = true) : Df K mg "_law_read" s_Lread ["_law_text_here"] :=
  ⟨_, _, fun_mk (st := s_Lread) l c k, PySem.W.mg_of X G a, (fun_mk (st := s_Lread) l c k).binds (ps := ["_law_text_here"]) fun _ _ _ _ _ _ us hl => match us, hl with | [_], _ => rfl⟩
theorem df_Lis_read (X : K.In h) (G : h.Ns mainGlobals mg) (a : PySem.W.nsIn K mainGlobals "_law_is_read" = some (some (.ref f))) (l : K.lookup f = some ⟨oc, od, .func (PySem.W.fnOf "_law_is_read" "_law_is_read" (defArgs s_Lis_read) (defBody s_Lis_read) (defScope s_Lis_read) .none kV dc pm an (.ref 205) ct), osl⟩) (c : PySem.W.codeIn K (.ref 205) "_law_is_read" = true) (k : PySem.W.keepIn K (.ref f) = true) : DfC K mg "_law_is_read" s_Lis_read ["_law_text_here", "_law_way"] 205 :=
  ⟨_, _, fun_mk (st := s_Lis_read) l c k, PySem.W.mg_of X G a, (fun_mk (st := s_Lis_read) l c k).binds (ps := ["_law_text_here", "_law_way"]) fun _ _ _ _ _ _ us hl => match us, hl with | [_, _], _ => rfl, rfl⟩
theorem df_law (X : K.In h) (G : h.Ns mainGlobals mg) (a : PySem.W.nsIn K mainGlobals "law" = some (some (.ref f))) (l : K.lookup f = some ⟨oc, od, .func (PySem.W.fnOf "law" "law" (defArgs s_law) (defBody s_law) (defScope s_law) .none kV dc pm an (.ref 212) ct), osl⟩) (c : PySem.W.codeIn K (.ref 212) "law" = true) (k : PySem.W.keepIn K (.ref f) = true) : DfC K mg "law" s_law ["_law_script"] 212 :=
  ⟨_, _, fun_mk (st := s_law) l c k, PySem.W.mg_of X G a, (fun_mk (st := s_law) l c k).binds (ps := ["_law_script"]) fun _ _ _ _ _ _ us hl => match us, hl with | [_], _ => rfl, rfl⟩
theorem told_f (X : K.In h) (G : h.Ns mainGlobals mg) (a : PySem.W.nsIn K mainGlobals "_law_told" = some (some (.ref f))) (l : K.lookup f = some ⟨oc, od, .func (PySem.W.fnOf "_law_told" "_law_told" (defArgs s_Ltold) (defBody s_Ltold) (defScope s_Ltold) .none kV dc pm an cd ct), osl⟩) (c : PySem.W.codeIn K cd "_law_told" = true) (k : PySem.W.keepIn K (.ref f) = true)
    (aC0 : PySem.W.nsIn K mainGlobals "BadText" = some (some (.ref 63))) (ga0 : PySem.W.findIn K (.ref 63) "__getattribute__" = some (some (.builtin "BaseException.__getattribute__"))) (gg0 : PySem.W.findIn K (.ref 63) "__getattr__" = some none) (exC0 : PySem.W.subIn K (.ref 63) (.type "BaseException") = some true) (hdC0 : PySem.W.hasDictIn K 63 = true)
    (no0 : PySem.W.findIn K (.ref 63) "at" = some none) (tyC0 : PySem.W.typeIn K (.ref 63) = some (.type "type")) (aC1 : PySem.W.nsIn K mainGlobals "BadTable" = some (some (.ref 44))) (ga1 : PySem.W.findIn K (.ref 44) "__getattribute__" = some (some (.builtin "BaseException.__getattribute__"))) (gg1 : PySem.W.findIn K (.ref 44) "__getattr__" = some none) (exC1 : PySem.W.subIn K (.ref 44) (.type "BaseException") = some true) (hdC1 : PySem.W.hasDictIn K 44 = true)
    (no1 : PySem.W.findIn K (.ref 44) "thing" = some none) (tyC1 : PySem.W.typeIn K (.ref 44) = some (.type "type"))
    (ss00 : PySem.W.subIn K (.ref 63) (.ref 63) = some true) (ss01 : PySem.W.subIn K (.ref 63) (.ref 44) = some false) (ss10 : PySem.W.subIn K (.ref 44) (.ref 63) = some false) (ss11 : PySem.W.subIn K (.ref 44) (.ref 44) = some true) : TOF K mg where
  ex := ⟨f, oc, od, kV, dc, pm, an, cd, ct, osl, PySem.W.mg_of X G a, k, l, c, (fun_mk (st := s_Ltold) l c k).binds (ps := ["_law_deed"]) fun _ _ _ _ _ _ us hl => match us, hl with | [_], _ => rfl⟩
  xf := fun p hp => by
    simp only [List.mem_cons, List.not_mem_nil, or_false] at hp
    rcases hp with rfl | rfl
    · exact ⟨⟨ga0, gg0, exC0, hdC0⟩, no0⟩
    · exact ⟨⟨ga1, gg1, exC1, hdC1⟩, no1⟩
  xm := fun p hp q hq => by
    simp only [List.mem_cons, List.not_mem_nil, or_false] at hp hq
    rcases hp with rfl | rfl <;> rcases hq with rfl | rfl
    · exact (PySem.W.exm_ref exC0 hdC0 tyC0 ss00).trans (by decide)
    · exact (PySem.W.exm_ref exC1 hdC1 tyC1 ss01).trans (by decide)
    · exact (PySem.W.exm_ref exC0 hdC0 tyC0 ss10).trans (by decide)
    · exact (PySem.W.exm_ref exC1 hdC1 tyC1 ss11).trans (by decide)
  nd := by decide
  sc := ⟨rfl, rfl, rfl, by decide +kernel, rfl, by decide +kernel, by decide +kernel⟩
  m1 := PySem.W.mg_of X G aC0
  m2 := PySem.W.mg_of X G aC1
abbrev sXi_BadTable : Stmt := inClass (top 2) 0
theorem sc_xi_BadTable : FnScope ["self", "thing"] ["self", "thing"] (defScope sXi_BadTable) := ⟨rfl, rfl, rfl, by decide +kernel, rfl, by decide +kernel, by decide +kernel⟩
theorem rs_BadTable {P : Program} {w : World} {base : Heap} {C0 N : Addr} {nm q : Str} {bs : List Value} {sn : List Str} {sub : List Value} {ab : Bool} {col : Option Bool} {dd : Option Addr} {k0 k1 k2 k3 k5 : Option Value} (X : K.In h) (G : h.Ns mainGlobals mg) (aC : PySem.W.nsIn K mainGlobals "BadTable" = some (some (.ref 44)))
    (lC : K.lookup 44 = some (excClassObj nm q 44 N bs [.ref C0, .type "Exception", .type "BaseException", .type "object"] true sn sub ab col dd k0 k1 k2 k3 k5 "Exception.__new__"))
    (sa : PySem.W.findIn K (.ref 44) "__setattr__" = some (some (.builtin "object.__setattr__"))) (exC : PySem.W.subIn K (.ref 44) (.type "BaseException") = some true) (tyC : PySem.W.typeIn K (.ref 44) = some (.type "type")) (kC : PySem.W.keepIn K (.ref 44) = true)
    (no : PySem.W.findIn K (.ref 44) "thing" = some none) (iC : PySem.W.findIn K (.ref 44) "__init__" = some (some (.ref f))) (tI : PySem.W.typeIn K (.ref f) = some (.type "function"))
    (l : K.lookup f = some ⟨oc, od, .func (PySem.W.fnOf "__init__" "BadTable.__init__" (defArgs sXi_BadTable) (defBody sXi_BadTable) (defScope sXi_BadTable) .none kV dc pm an cd ct), osl⟩) (c : PySem.W.codeIn K cd "BadTable.__init__" = true) (k : PySem.W.keepIn K (.ref f) = true) : Rs P w K mg base "BadTable" "thing" CT where
  T := ⟨⟨nm, q, N, bs, [C0], sn, sub, ab, col, dd, k0, k1, k2, k3, k5, lC⟩, sa, exC, tyC, kC⟩
  no := no
  mgC := PySem.W.mg_of X G aC
  ini := ⟨f, _, ["self", "thing"], iC, tI, xc_init (fun_mk (st := sXi_BadTable) l c k) sc_xi_BadTable rfl (.inl rfl) (.inl rfl) (by decide) (by decide) (by decide) (by decide) (fun _ => rfl), (fun_mk (st := sXi_BadTable) l c k).binds (ps := ["self", "thing"]) fun _ _ _ _ _ _ us hl => match us, hl with | [_, _], _ => rfl⟩
abbrev sXi_BadText : Stmt := inClass (top 3) 0
theorem sc_xi_BadText : FnScope ["self", "at"] ["self", "at"] (defScope sXi_BadText) := ⟨rfl, rfl, rfl, by decide +kernel, rfl, by decide +kernel, by decide +kernel⟩
theorem rs_BadText {P : Program} {w : World} {base : Heap} {C0 N : Addr} {nm q : Str} {bs : List Value} {sn : List Str} {sub : List Value} {ab : Bool} {col : Option Bool} {dd : Option Addr} {k0 k1 k2 k3 k5 : Option Value} (X : K.In h) (G : h.Ns mainGlobals mg) (aC : PySem.W.nsIn K mainGlobals "BadText" = some (some (.ref 63)))
    (lC : K.lookup 63 = some (excClassObj nm q 63 N bs [.ref C0, .type "Exception", .type "BaseException", .type "object"] true sn sub ab col dd k0 k1 k2 k3 k5 "Exception.__new__"))
    (sa : PySem.W.findIn K (.ref 63) "__setattr__" = some (some (.builtin "object.__setattr__"))) (exC : PySem.W.subIn K (.ref 63) (.type "BaseException") = some true) (tyC : PySem.W.typeIn K (.ref 63) = some (.type "type")) (kC : PySem.W.keepIn K (.ref 63) = true)
    (no : PySem.W.findIn K (.ref 63) "at" = some none) (iC : PySem.W.findIn K (.ref 63) "__init__" = some (some (.ref f))) (tI : PySem.W.typeIn K (.ref f) = some (.type "function"))
    (l : K.lookup f = some ⟨oc, od, .func (PySem.W.fnOf "__init__" "BadText.__init__" (defArgs sXi_BadText) (defBody sXi_BadText) (defScope sXi_BadText) .none kV dc pm an cd ct), osl⟩) (c : PySem.W.codeIn K cd "BadText.__init__" = true) (k : PySem.W.keepIn K (.ref f) = true) : Rs P w K mg base "BadText" "at" CX where
  T := ⟨⟨nm, q, N, bs, [C0], sn, sub, ab, col, dd, k0, k1, k2, k3, k5, lC⟩, sa, exC, tyC, kC⟩
  no := no
  mgC := PySem.W.mg_of X G aC
  ini := ⟨f, _, ["self", "at"], iC, tI, xc_init (fun_mk (st := sXi_BadText) l c k) sc_xi_BadText rfl (.inl rfl) (.inl rfl) (by decide) (by decide) (by decide) (by decide) (fun _ => rfl), (fun_mk (st := sXi_BadText) l c k).binds (ps := ["self", "at"]) fun _ _ _ _ _ _ us hl => match us, hl with | [_, _], _ => rfl⟩
end
/-! ### all of them -/
abbrev TT : List (Addr × Str) := [(201, "_law_is_read.<locals>.<lambda>"), (208, "law.<locals>.<lambda>")]
abbrev WD : Wd := ⟨"cells", "mixed", "draws", TT⟩
set_option maxHeartbeats 4000000 in
theorem all_law {P : Program} {w : World} {K : PySem.W.Frag} {mg : Str → Option Value} {base : Heap} (B : Blt3 mg) {t_MOST_PLACES : Tok} (g_MOST_PLACES : mg "MOST_PLACES" = some (.int 12 t_MOST_PLACES)) {t_FIGURES : Tok} (g_FIGURES : mg "FIGURES" = some (.str "0123456789" t_FIGURES)) (D_is_whole : Df K mg "is_whole" s_is_whole ["thing"])
    (D_are_whole : Df K mg "are_whole" s_are_whole ["thing"])
    (D_is_table_value : Df K mg "is_table_value" s_is_table_value ["thing", "most"])
    (D_need_table : Df K mg "need_table" s_need_table ["thing"])
    (D_table_lines : Df K mg "table_lines" s_table_lines ["table"])
    (D_text_of : Df K mg "text_of" s_text_of ["table"])
    (D_integer_read : Df K mg "integer_read" s_integer_read ["word"])
    (D_places_read : Df K mg "places_read" s_places_read ["line"])
    (D_entries_read : Df K mg "entries_read" s_entries_read ["line", "many"])
    (D_whole_table : Df K mg "whole_table" s_whole_table ["halves"])
    (D_read_table : Df K mg "read_table" s_read_table ["text"])
    (D_Ldeck : Df K mg "_law_deck" sDeck ["_law_script"])
    (D_Ldraw : Df K mg "_law_draw" sDraw ["_law_deck_here", "_law_many"])
    (D_Lpick : Df K mg "_law_pick" s_Lpick ["_law_deck_here", "_law_some"])
    (D_Lnumber : Df K mg "_law_number" s_Lnumber ["_law_deck_here", "_law_way"])
    (D_Ldrawn : Df K mg "_law_drawn" s_Ldrawn ["_law_deck_here", "_law_n"])
    (D_Ltext : Df K mg "_law_text" s_Ltext ["_law_own"])
    (D_Lbent : Df K mg "_law_bent" s_Lbent ["_law_deck_here", "_law_text_here"])
    (D_Lis_number : Df K mg "_law_is_number" s_Lis_number ["_law_word"])
    (D_Lis_long : Df K mg "_law_is_long" s_Lis_long ["_law_text_here"])
    (D_Lread : Df K mg "_law_read" s_Lread ["_law_text_here"])
    (D_Lis_read : DfC K mg "_law_is_read" s_Lis_read ["_law_text_here", "_law_way"] 205)
    (K_read_table : DfK K mg "read_table" s_read_table ["text"] ["text"] [0])
    (K_text_of : DfK K mg "text_of" s_text_of ["table"] ["table"] [0])
    (RS_BadTable : Rs P w K mg base "BadTable" "thing" CT) (RS_BadText : Rs P w K mg base "BadText" "at" CX) (TO : TOF K mg) (T_Lis_read : LamX.TabB base mg 205 201) (T_law : LamX.TabB base mg 212 208) {f : Addr} {fd : FuncData} (F : L2.Fun K "law" "law" s_law f fd) (hc : fd.code = .ref 212) :
    FnR NoGu P w K mg base (L2.CX P w) 60 f fd ["_law_script"] (spLaw K TT) := by
  have up : ∀ {j k : Nat} {x : Str} {ps : List Str} {Fd : FD}, Cal Tru P w K mg base j x ps WD Fd → j ≤ k → Cal Tru P w K mg base k x ps WD Fd := fun c h => c.mono h fun _ _ => True.intro
  have un : ∀ {j k : Nat} {x : Str} {ps : List Str} {Fd : FD}, Cal Tru P w K mg base j x ps WD Fd → j ≤ k → Cal NoGu P w K mg base k x ps WD Fd := fun c h => c.mono h fun _ _ => True.intro
  have nn : ∀ {j k : Nat} {x : Str} {ps : List Str} {Fd : FD}, Cal NoGu P w K mg base j x ps WD Fd → j ≤ k → Cal NoGu P w K mg base k x ps WD Fd := fun c h => c.mono h fun _ h => h
  have uk : ∀ {j k : Nat} {x : Str} {ps ks : List Str} {is : List Nat} {Fd : FD}, CalK Tru P w K mg base j x ps ks is WD Fd → j ≤ k → CalK Tru P w K mg base k x ps ks is WD Fd := fun c h => DL.CalK.mono c h fun _ _ => True.intro
  have vk : ∀ {j k : Nat} {x : Str} {ps ks : List Str} {is : List Nat} {Fd : FD}, CalK Tru P w K mg base j x ps ks is WD Fd → j ≤ k → CalK NoGu P w K mg base k x ps ks is WD Fd := fun c h => DL.CalK.mono c h fun _ _ => True.intro
  have nk : ∀ {j k : Nat} {x : Str} {ps ks : List Str} {is : List Nat} {Fd : FD}, CalK NoGu P w K mg base j x ps ks is WD Fd → j ≤ k → CalK NoGu P w K mg base k x ps ks is WD Fd := fun c h => DL.CalK.mono c h fun _ h => h
  have c_is_whole : Cal Tru P w K mg base 1 "is_whole" ["thing"] WD F_is_whole := cal_of D_is_whole fun f fd F => fn_is_whole tru_deeper (k := 0) B  F
  have c_are_whole : Cal Tru P w K mg base 2 "are_whole" ["thing"] WD F_are_whole := cal_of D_are_whole fun f fd F => fn_are_whole tru_deeper (k := 1) B (up c_is_whole (by decide : _ ≤ 1)) F
  have c_is_table_value : Cal Tru P w K mg base 3 "is_table_value" ["thing", "most"] WD F_is_table_value := cal_of D_is_table_value fun f fd F => fn_is_table_value tru_deeper (k := 2) B (up c_are_whole (by decide : _ ≤ 2)) F
  have c_need_table : Cal Tru P w K mg base 4 "need_table" ["thing"] WD F_need_table := cal_of D_need_table fun f fd F => fn_need_table tru_deeper (k := 3) B g_MOST_PLACES (up c_is_table_value (by decide : _ ≤ 3)) RS_BadTable (by decide) F
  have c_table_lines : Cal Tru P w K mg base 1 "table_lines" ["table"] WD F_table_lines := cal_of D_table_lines fun f fd F => fn_table_lines tru_deeper (k := 0) B  F
  have c_text_of : Cal Tru P w K mg base 5 "text_of" ["table"] WD F_text_of := cal_of D_text_of fun f fd F => fn_text_of tru_deeper (k := 4) B (up c_need_table (by decide : _ ≤ 4)) (up c_table_lines (by decide : _ ≤ 4)) F
  have k_text_of : CalK Tru P w K mg base 5 "text_of" ["table"] ["table"] [0] WD F_text_of := calK_of K_text_of fun f fd F => fn_text_of tru_deeper (k := 4) B (up c_need_table (by decide : _ ≤ 4)) (up c_table_lines (by decide : _ ≤ 4)) F
  have c_integer_read : Cal Tru P w K mg base 1 "integer_read" ["word"] WD F_integer_read := cal_of D_integer_read fun f fd F => fn_integer_read tru_deeper (k := 0) B g_FIGURES F
  have c_places_read : Cal Tru P w K mg base 1 "places_read" ["line"] WD F_places_read := cal_of D_places_read fun f fd F => fn_places_read tru_deeper (k := 0) B g_MOST_PLACES F
  have c_entries_read : Cal Tru P w K mg base 2 "entries_read" ["line", "many"] WD F_entries_read := cal_of D_entries_read fun f fd F => fn_entries_read tru_deeper (k := 1) B (up c_integer_read (by decide : _ ≤ 1)) F
  have c_whole_table : Cal Tru P w K mg base 1 "whole_table" ["halves"] WD F_whole_table := cal_of D_whole_table fun f fd F => fn_whole_table tru_deeper (k := 0) B  F
  have c_read_table : Cal Tru P w K mg base 3 "read_table" ["text"] WD F_read_table := cal_of D_read_table fun f fd F => fn_read_table tru_deeper (k := 2) B (up c_places_read (by decide : _ ≤ 2)) (up c_entries_read (by decide : _ ≤ 2)) (up c_whole_table (by decide : _ ≤ 2)) RS_BadText (by decide) F
  have k_read_table : CalK Tru P w K mg base 3 "read_table" ["text"] ["text"] [0] WD F_read_table := calK_of K_read_table fun f fd F => fn_read_table tru_deeper (k := 2) B (up c_places_read (by decide : _ ≤ 2)) (up c_entries_read (by decide : _ ≤ 2)) (up c_whole_table (by decide : _ ≤ 2)) RS_BadText (by decide) F
  have c_Ldraw : Cal Tru P w K mg base 1 "_law_draw" ["_law_deck_here", "_law_many"] WD F_Ldraw := cal_draw B D_Ldraw
  have c_Lpick : Cal Tru P w K mg base 2 "_law_pick" ["_law_deck_here", "_law_some"] WD F_Lpick := cal_of D_Lpick fun f fd F => fn_Lpick tru_deeper (k := 1) B (up c_Ldraw (by decide : _ ≤ 1)) F
  have c_Lnumber : Cal Tru P w K mg base 3 "_law_number" ["_law_deck_here", "_law_way"] WD F_Lnumber := cal_of D_Lnumber fun f fd F => fn_Lnumber tru_deeper (k := 2) B (up c_Ldraw (by decide : _ ≤ 2)) (up c_Lpick (by decide : _ ≤ 2)) F
  have c_Ldrawn : Cal Tru P w K mg base 4 "_law_drawn" ["_law_deck_here", "_law_n"] WD F_Ldrawn := cal_of D_Ldrawn fun f fd F => fn_Ldrawn tru_deeper (k := 3) B (up c_Ldraw (by decide : _ ≤ 3)) (up c_Lnumber (by decide : _ ≤ 3)) F
  have c_Ltext : Cal Tru P w K mg base 1 "_law_text" ["_law_own"] WD F_Ltext := cal_of D_Ltext fun f fd F => fn_Ltext tru_deeper (k := 0) B  F
  have c_Lbent : Cal Tru P w K mg base 3 "_law_bent" ["_law_deck_here", "_law_text_here"] WD F_Lbent := cal_of D_Lbent fun f fd F => fn_Lbent tru_deeper (k := 2) B (up c_Ldraw (by decide : _ ≤ 2)) (up c_Lpick (by decide : _ ≤ 2)) F
  have c_Lis_number : Cal Tru P w K mg base 1 "_law_is_number" ["_law_word"] WD F_Lis_number := cal_of D_Lis_number fun f fd F => fn_Lis_number tru_deeper (k := 0) B  F
  have c_Lis_long : Cal Tru P w K mg base 1 "_law_is_long" ["_law_text_here"] WD F_Lis_long := cal_of D_Lis_long fun f fd F => fn_Lis_long tru_deeper (k := 0) B  F
  have c_Lread : Cal Tru P w K mg base 2 "_law_read" ["_law_text_here"] WD F_Lread := cal_of D_Lread fun f fd F => fn_Lread tru_deeper (k := 1) B (up c_Lis_number (by decide : _ ≤ 1)) F
  have c_Lis_read : Cal NoGu P w K mg base 8 "_law_is_read" ["_law_text_here", "_law_way"] WD F_Lis_read := calC_of D_Lis_read fun f fd F hc => fn_Lis_read (k := 7) B (up c_read_table (by decide : _ ≤ 5)) (up c_text_of (by decide : _ ≤ 5)) (uk k_read_table (by decide : _ ≤ 5)) (by decide) TO T_Lis_read (by decide +kernel) (by decide +kernel) (un c_Lread (by decide : _ ≤ 7)) F hc
  exact fn_law (k := 59) B  D_Ldeck (by decide) (up c_text_of (by decide : _ ≤ 57)) (uk k_text_of (by decide : _ ≤ 57)) (by decide) TO T_law (by decide +kernel) (by decide +kernel) (un c_Ldrawn (by decide : _ ≤ 59)) (un c_Ldraw (by decide : _ ≤ 59)) (un c_Ltext (by decide : _ ≤ 59)) (nn c_Lis_read (by decide : _ ≤ 59)) (un c_Lbent (by decide : _ ≤ 59)) (un c_Lis_long (by decide : _ ≤ 59)) (un c_Lpick (by decide : _ ≤ 59)) F hc
theorem law_r {L : PySem.W.OpenLaw} {w : World} {K : PySem.W.Frag} {h : Heap} {mg : Str → Option Value} {fa f : Addr} {od an : Option Addr} {osl : Array (Option Value)} {oc kV dc pm ct : Value} (X : K.In h) (G : h.Ns mainGlobals mg) (hmg : mg "law" = some (.ref fa))
    (a : PySem.W.nsIn K mainGlobals "law" = some (some (.ref f))) (l : K.lookup f = some ⟨oc, od, .func (PySem.W.fnOf "law" "law" (defArgs s_law) (defBody s_law) (defScope s_law) .none kV dc pm an (.ref 212) ct), osl⟩) (c : PySem.W.codeIn K (.ref 212) "law" = true) (k : PySem.W.keepIn K (.ref f) = true)
    (t0 : h.get? 201 = some { cls := .none, data := .fields #[] }) (t1 : h.get? 208 = some { cls := .none, data := .fields #[] }) (n0 : K.lookup 201 = none) (n1 : K.lookup 208 = none) (e0 : PySem.W.codeHdIn K 205 201 = true) (e1 : PySem.W.codeHdIn K 212 208 = true) (nS : K.lookup sysModules = none)
    (B : Blt3 mg) {t_MOST_PLACES : Tok} (g_MOST_PLACES : mg "MOST_PLACES" = some (.int 12 t_MOST_PLACES)) {t_FIGURES : Tok} (g_FIGURES : mg "FIGURES" = some (.str "0123456789" t_FIGURES)) (D_is_whole : Df K mg "is_whole" s_is_whole ["thing"])
    (D_are_whole : Df K mg "are_whole" s_are_whole ["thing"])
    (D_is_table_value : Df K mg "is_table_value" s_is_table_value ["thing", "most"])
    (D_need_table : Df K mg "need_table" s_need_table ["thing"])
    (D_table_lines : Df K mg "table_lines" s_table_lines ["table"])
    (D_text_of : Df K mg "text_of" s_text_of ["table"])
    (D_integer_read : Df K mg "integer_read" s_integer_read ["word"])
    (D_places_read : Df K mg "places_read" s_places_read ["line"])
    (D_entries_read : Df K mg "entries_read" s_entries_read ["line", "many"])
    (D_whole_table : Df K mg "whole_table" s_whole_table ["halves"])
    (D_read_table : Df K mg "read_table" s_read_table ["text"])
    (D_Ldeck : Df K mg "_law_deck" sDeck ["_law_script"])
    (D_Ldraw : Df K mg "_law_draw" sDraw ["_law_deck_here", "_law_many"])
    (D_Lpick : Df K mg "_law_pick" s_Lpick ["_law_deck_here", "_law_some"])
    (D_Lnumber : Df K mg "_law_number" s_Lnumber ["_law_deck_here", "_law_way"])
    (D_Ldrawn : Df K mg "_law_drawn" s_Ldrawn ["_law_deck_here", "_law_n"])
    (D_Ltext : Df K mg "_law_text" s_Ltext ["_law_own"])
    (D_Lbent : Df K mg "_law_bent" s_Lbent ["_law_deck_here", "_law_text_here"])
    (D_Lis_number : Df K mg "_law_is_number" s_Lis_number ["_law_word"])
    (D_Lis_long : Df K mg "_law_is_long" s_Lis_long ["_law_text_here"])
    (D_Lread : Df K mg "_law_read" s_Lread ["_law_text_here"])
    (D_Lis_read : DfC K mg "_law_is_read" s_Lis_read ["_law_text_here", "_law_way"] 205)
    (K_read_table : DfK K mg "read_table" s_read_table ["text"] ["text"] [0])
    (K_text_of : DfK K mg "text_of" s_text_of ["table"] ["table"] [0])
    (RS_BadTable : ∀ base, Rs L.prog w K mg base "BadTable" "thing" CT) (RS_BadText : ∀ base, Rs L.prog w K mg base "BadText" "at" CX) (TO : TOF K mg) : LawR L w K 60 63 "_law_script" mg fa h := by
  have e := hmg.symm.trans (PySem.W.mg_of X G a)
  cases e
  refine ⟨_, [(205, 201), (212, 208)], spLaw K TT, ?_, ?_, ?_, nS, fun s u => .of_eq rfl, ?_, fun base hK hns tb => all_law B g_MOST_PLACES g_FIGURES D_is_whole D_are_whole D_is_table_value D_need_table D_table_lines D_text_of D_integer_read D_places_read D_entries_read D_whole_table D_read_table D_Ldeck D_Ldraw D_Lpick D_Lnumber D_Ldrawn D_Ltext D_Lbent D_Lis_number D_Lis_long D_Lread D_Lis_read K_read_table K_text_of (RS_BadTable base) (RS_BadText base) TO (tb (205, 201) (.head _)) (tb (212, 208) (.tail _ (.head _))) (fun_mk (st := s_law) l c k) rfl⟩
  · intro p hp
    simp only [List.mem_cons, List.not_mem_nil, or_false] at hp
    rcases hp with rfl | rfl
    · exact t0
    · exact t1
  · intro p hp
    simp only [List.mem_cons, List.not_mem_nil, or_false] at hp
    rcases hp with rfl | rfl
    · exact n0
    · exact n1
  · intro p hp
    simp only [List.mem_cons, List.not_mem_nil, or_false] at hp
    rcases hp with rfl | rfl
    · exact PySem.W.codeHd_of_K X e0
    · exact PySem.W.codeHd_of_K X e1
  · rintro H a ns hl ⟨h1, h2, h3⟩
    refine ⟨a, ns, rfl, h2, hl, fun p hp => ?_, h3, fun _ => rfl⟩
    simp only [List.mem_cons, List.not_mem_nil, or_false] at hp
    rcases hp with rfl | rfl
    · exact h1 (205, 201) (.head _)
    · exact h1 (212, 208) (.tail _ (.head _))
end Z

open PySem PySem.W PyProof.Rows in
set_option maxRecDepth 100000 in
set_option maxHeartbeats 0 in
theorem PySem.Challenge.cw_withintwo_k09_texts_of_tables_holds : PySem.Challenge.rw_withintwo_k09_texts_of_tables.Holds := by
  w_on; o_law; k_head; (case hw => w_witness2)
  k_fill
  refine DL.walkR (n := 63) (k := 60) (x := "_law_script") rfl (by decide) rfl ⟨rfl, by decide, by decide⟩ (fun w h Y => PySem.W.km_in_of Y) (by rfl) ?F
  case F =>
    intro w mg fa h Y KX G hmg
    have hT8 := PySem.W.km_tabs_of Y
    clear Y
    have hmg : mg "law" = some (.ref fa) := hmg
    have D_is_whole := by refine' Z.df_is_whole (K := (cw_withintwo_k09_texts_of_tables_holds.heap_39 w.params)) KX G ?a ?l ?c ?k; (case a => k_is); (case l => k_is); (case c => k_is); (case k => k_is)
    have D_are_whole := by refine' Z.df_are_whole (K := (cw_withintwo_k09_texts_of_tables_holds.heap_39 w.params)) KX G ?a ?l ?c ?k; (case a => k_is); (case l => k_is); (case c => k_is); (case k => k_is)
    have D_is_table_value := by refine' Z.df_is_table_value (K := (cw_withintwo_k09_texts_of_tables_holds.heap_39 w.params)) KX G ?a ?l ?c ?k; (case a => k_is); (case l => k_is); (case c => k_is); (case k => k_is)
    have D_need_table := by refine' Z.df_need_table (K := (cw_withintwo_k09_texts_of_tables_holds.heap_39 w.params)) KX G ?a ?l ?c ?k; (case a => k_is); (case l => k_is); (case c => k_is); (case k => k_is)
    have D_table_lines := by refine' Z.df_table_lines (K := (cw_withintwo_k09_texts_of_tables_holds.heap_39 w.params)) KX G ?a ?l ?c ?k; (case a => k_is); (case l => k_is); (case c => k_is); (case k => k_is)
    have D_text_of := by refine' Z.df_text_of (K := (cw_withintwo_k09_texts_of_tables_holds.heap_39 w.params)) KX G ?a ?l ?c ?k; (case a => k_is); (case l => k_is); (case c => k_is); (case k => k_is)
    have D_integer_read := by refine' Z.df_integer_read (K := (cw_withintwo_k09_texts_of_tables_holds.heap_39 w.params)) KX G ?a ?l ?c ?k; (case a => k_is); (case l => k_is); (case c => k_is); (case k => k_is)
    have D_places_read := by refine' Z.df_places_read (K := (cw_withintwo_k09_texts_of_tables_holds.heap_39 w.params)) KX G ?a ?l ?c ?k; (case a => k_is); (case l => k_is); (case c => k_is); (case k => k_is)
    have D_entries_read := by refine' Z.df_entries_read (K := (cw_withintwo_k09_texts_of_tables_holds.heap_39 w.params)) KX G ?a ?l ?c ?k; (case a => k_is); (case l => k_is); (case c => k_is); (case k => k_is)
    have D_whole_table := by refine' Z.df_whole_table (K := (cw_withintwo_k09_texts_of_tables_holds.heap_39 w.params)) KX G ?a ?l ?c ?k; (case a => k_is); (case l => k_is); (case c => k_is); (case k => k_is)
    have D_read_table := by refine' Z.df_read_table (K := (cw_withintwo_k09_texts_of_tables_holds.heap_39 w.params)) KX G ?a ?l ?c ?k; (case a => k_is); (case l => k_is); (case c => k_is); (case k => k_is)
    have D_Ldeck := by refine' Z.df_Ldeck (K := (cw_withintwo_k09_texts_of_tables_holds.heap_39 w.params)) KX G ?a ?l ?c ?k; (case a => k_is); (case l => k_is); (case c => k_is); (case k => k_is)
    have D_Ldraw := by refine' Z.df_Ldraw (K := (cw_withintwo_k09_texts_of_tables_holds.heap_39 w.params)) KX G ?a ?l ?c ?k; (case a => k_is); (case l => k_is); (case c => k_is); (case k => k_is)
    have D_Lpick := by refine' Z.df_Lpick (K := (cw_withintwo_k09_texts_of_tables_holds.heap_39 w.params)) KX G ?a ?l ?c ?k; (case a => k_is); (case l => k_is); (case c => k_is); (case k => k_is)
    have D_Lnumber := by refine' Z.df_Lnumber (K := (cw_withintwo_k09_texts_of_tables_holds.heap_39 w.params)) KX G ?a ?l ?c ?k; (case a => k_is); (case l => k_is); (case c => k_is); (case k => k_is)
    have D_Ldrawn := by refine' Z.df_Ldrawn (K := (cw_withintwo_k09_texts_of_tables_holds.heap_39 w.params)) KX G ?a ?l ?c ?k; (case a => k_is); (case l => k_is); (case c => k_is); (case k => k_is)
    have D_Ltext := by refine' Z.df_Ltext (K := (cw_withintwo_k09_texts_of_tables_holds.heap_39 w.params)) KX G ?a ?l ?c ?k; (case a => k_is); (case l => k_is); (case c => k_is); (case k => k_is)
    have D_Lbent := by refine' Z.df_Lbent (K := (cw_withintwo_k09_texts_of_tables_holds.heap_39 w.params)) KX G ?a ?l ?c ?k; (case a => k_is); (case l => k_is); (case c => k_is); (case k => k_is)
    have D_Lis_number := by refine' Z.df_Lis_number (K := (cw_withintwo_k09_texts_of_tables_holds.heap_39 w.params)) KX G ?a ?l ?c ?k; (case a => k_is); (case l => k_is); (case c => k_is); (case k => k_is)
    have D_Lis_long := by refine' Z.df_Lis_long (K := (cw_withintwo_k09_texts_of_tables_holds.heap_39 w.params)) KX G ?a ?l ?c ?k; (case a => k_is); (case l => k_is); (case c => k_is); (case k => k_is)
    have D_Lread := by refine' Z.df_Lread (K := (cw_withintwo_k09_texts_of_tables_holds.heap_39 w.params)) KX G ?a ?l ?c ?k; (case a => k_is); (case l => k_is); (case c => k_is); (case k => k_is)
    have D_Lis_read := by refine' Z.df_Lis_read (K := (cw_withintwo_k09_texts_of_tables_holds.heap_39 w.params)) KX G ?a ?l ?c ?k; (case a => k_is); (case l => k_is); (case c => k_is); (case k => k_is)
    have K_read_table := by refine' Z.dk_read_table (K := (cw_withintwo_k09_texts_of_tables_holds.heap_39 w.params)) KX G ?a ?l ?c ?k; (case a => k_is); (case l => k_is); (case c => k_is); (case k => k_is)
    have K_text_of := by refine' Z.dk_text_of (K := (cw_withintwo_k09_texts_of_tables_holds.heap_39 w.params)) KX G ?a ?l ?c ?k; (case a => k_is); (case l => k_is); (case c => k_is); (case k => k_is)
    have g_MOST_PLACES := PySem.W.mg_of (n := "MOST_PLACES") (K := (cw_withintwo_k09_texts_of_tables_holds.heap_39 w.params)) KX G (by k_is)
    have g_FIGURES := PySem.W.mg_of (n := "FIGURES") (K := (cw_withintwo_k09_texts_of_tables_holds.heap_39 w.params)) KX G (by k_is)
    have B2 : DL.Blt2 mg := ⟨⟨PySem.W.mg_none_of KX G (by k_is), PySem.W.mg_none_of KX G (by k_is), PySem.W.mg_none_of KX G (by k_is), PySem.W.mg_none_of KX G (by k_is), PySem.W.mg_none_of KX G (by k_is), PySem.W.mg_none_of KX G (by k_is), PySem.W.mg_none_of KX G (by k_is), PySem.W.mg_none_of KX G (by k_is), PySem.W.mg_none_of KX G (by k_is), PySem.W.mg_none_of KX G (by k_is), PySem.W.mg_none_of KX G (by k_is), PySem.W.mg_none_of KX G (by k_is), PySem.W.mg_none_of KX G (by k_is)⟩, PySem.W.mg_none_of KX G (by k_is), PySem.W.mg_none_of KX G (by k_is), PySem.W.mg_none_of KX G (by k_is), PySem.W.mg_none_of KX G (by k_is)⟩
    have B : DL.Blt3 mg := ⟨B2, PySem.W.mg_none_of KX G (by k_is), PySem.W.mg_none_of KX G (by k_is)⟩
    have TO := by refine' Z.told_f (K := (cw_withintwo_k09_texts_of_tables_holds.heap_39 w.params)) KX G ?a ?l ?c ?k ?aC0 ?ga0 ?gg0 ?exC0 ?hdC0 ?no0 ?tyC0 ?aC1 ?ga1 ?gg1 ?exC1 ?hdC1 ?no1 ?tyC1 ?ss00 ?ss01 ?ss10 ?ss11; (case a => k_is); (case l => k_is); (case c => k_is); (case k => k_is); (case aC0 => k_is); (case ga0 => k_is); (case gg0 => k_is); (case exC0 => k_is); (case hdC0 => k_is); (case no0 => k_is); (case tyC0 => k_is); (case aC1 => k_is); (case ga1 => k_is); (case gg1 => k_is); (case exC1 => k_is); (case hdC1 => k_is); (case no1 => k_is); (case tyC1 => k_is); (case ss00 => k_is); (case ss01 => k_is); (case ss10 => k_is); (case ss11 => k_is)
    have RS_BadTable : ∀ base, DL.Rs PySem.Challenge.rw_withintwo_k09_texts_of_tables.prog w (cw_withintwo_k09_texts_of_tables_holds.heap_39 w.params) mg base "BadTable" "thing" Z.CT := fun base => by refine' Z.rs_BadTable (K := (cw_withintwo_k09_texts_of_tables_holds.heap_39 w.params)) KX G ?aC ?lC ?sa ?exC ?tyC ?kC ?no ?iC ?tI ?l ?c ?k; (case aC => k_is); (case lC => k_is); (case sa => k_is); (case exC => k_is); (case tyC => k_is); (case kC => k_is); (case no => k_is); (case iC => k_is); (case tI => k_is); (case l => k_is); (case c => k_is); (case k => k_is)
    have RS_BadText : ∀ base, DL.Rs PySem.Challenge.rw_withintwo_k09_texts_of_tables.prog w (cw_withintwo_k09_texts_of_tables_holds.heap_39 w.params) mg base "BadText" "at" Z.CX := fun base => by refine' Z.rs_BadText (K := (cw_withintwo_k09_texts_of_tables_holds.heap_39 w.params)) KX G ?aC ?lC ?sa ?exC ?tyC ?kC ?no ?iC ?tI ?l ?c ?k; (case aC => k_is); (case lC => k_is); (case sa => k_is); (case exC => k_is); (case tyC => k_is); (case kC => k_is); (case no => k_is); (case iC => k_is); (case tI => k_is); (case l => k_is); (case c => k_is); (case k => k_is)
    refine' Z.law_r (K := (cw_withintwo_k09_texts_of_tables_holds.heap_39 w.params)) KX G hmg ?a ?l ?c ?k (hT8 201 (by decide)) (hT8 208 (by decide)) ?n0 ?n1 ?e0 ?e1 ?nS B g_MOST_PLACES g_FIGURES D_is_whole D_are_whole D_is_table_value D_need_table D_table_lines D_text_of D_integer_read D_places_read D_entries_read D_whole_table D_read_table D_Ldeck D_Ldraw D_Lpick D_Lnumber D_Ldrawn D_Ltext D_Lbent D_Lis_number D_Lis_long D_Lread D_Lis_read K_read_table K_text_of RS_BadTable RS_BadText TO
    (case a => k_is)
    (case l => k_is)
    (case c => k_is)
    (case k => k_is)
    (case n0 => rfl)
    (case n1 => rfl)
    (case e0 => rfl)
    (case e1 => rfl)
    (case nS => rfl)

