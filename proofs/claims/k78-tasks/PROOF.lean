import PyProof.Rows.All
import Wide.All
import OpenK.AllK
import Wide.FinOn
import HandS.Base
import HandS.Call
import HandS.List
import HandS.Comp
import HandS.Ends
import HandS.Dict
import HandS.Iter
import HandS.Text
import HandS.More
import HandS.Exc
import HandS.ExcOwn
import HandS.ExcInit
import HandS.ExcField
import HandS.ExcIs
import HandS.IsInst
import HandS.TryOnly
import HandS.TryMany
import HandS.Words
import HandS.WordsList
import HandS.WordsDict
import HandS.WordsExc
import HandS.Defaults
import HandS.Walk
import HandS.Wide
import HandS.WideBits
import HandS.TupAny
import HandS.TupMul
import HandS.Style
import HandS.Deep
import HandS.Flow
import HandS.Conv
import HandS.Codes
import HandS.StrMore
import HandS.HotCalls
import HandS.Head0
import HandS.Head1
import HandS.Head2
import HandS.HeadEnd
import HandS.HeadHook1
import HandS.HeadHook2
import KE.GoesEnum
import PySem.Challenge.RW_straightclock_k78_tasks
set_option Elab.async false
set_option linter.all false
set_option maxRecDepth 100000
set_option maxHeartbeats 4000000
/-! Z1: data, what stands for data, the frame between heaps, slots. -/
namespace Z
open PySem PySem.Spec PyProof.Rows L2

inductive D where
  | non | bl (b : Bool) | int (i : Int) | str (x : Str) | lst (l : List D) | tup (l : List D) | obj (C : Addr) (fs : List (Str × D)) | ty (n : String) | ref (a : Addr) | xc (a d : Addr) (fs : List (Str × D))

mutual
inductive Rp (K : PySem.W.Frag) (G : Hp) : V → D → Prop
  | non : Rp K G .non .non
  | bl (b : Bool) : Rp K G (.bl b) (.bl b)
  | int (i : Int) : Rp K G (.int i) (.int i)
  | str (x : Str) : Rp K G (.str x) (.str x)
  | ty (n : String) : Rp K G (.ty n) (.ty n)
  | ref (a : Addr) : Rp K G (.ref a) (.ref a)
  | lst {a : Addr} {xs : List V} {ds : List D} : SqL K G a xs → Rps K G xs ds → Rp K G (.ref a) (.lst ds)
  | tup {a : Addr} {xs : List V} {ds : List D} : SqT K G a xs → Rps K G xs ds → Rp K G (.ref a) (.tup ds)
  | obj {a C dx : Addr} {xs : List (Str × V)} {ds : List (Str × D)} : G a = some (.ins C dx xs) → Rfs K G xs ds → Rp K G (.ref a) (.obj C ds)
  | xc {a d : Addr} {xs : List (Str × V)} {ds : List (Str × D)} : G d = some (.xd xs) → Rfs K G xs ds → Rp K G (.ref a) (.xc a d ds)
inductive Rps (K : PySem.W.Frag) (G : Hp) : List V → List D → Prop
  | nil : Rps K G [] []
  | cons {v : V} {vs : List V} {d : D} {ds : List D} : Rp K G v d → Rps K G vs ds → Rps K G (v :: vs) (d :: ds)
inductive Rfs (K : PySem.W.Frag) (G : Hp) : List (Str × V) → List (Str × D) → Prop
  | nil : Rfs K G [] []
  | cons {f : Str} {v : V} {vs : List (Str × V)} {d : D} {ds : List (Str × D)} : Rp K G v d → Rfs K G vs ds → Rfs K G ((f, v) :: vs) ((f, d) :: ds)
end

section
variable {K : PySem.W.Frag} {G G' G2 H H' H2 : Hp}

theorem same_l {a : Addr} {xs : List V} (e : Same G G') (h : SqL K G a xs) : SqL K G' a xs := e.seq h
theorem same_t {a : Addr} {xs : List V} (e : Same G G') (h : SqT K G a xs) : SqT K G' a xs := by
  rcases h with (h | ⟨o, h⟩) | h
  · exact .inl (.inl (e _ _ h))
  · exact .inl (.inr ⟨o, e _ _ h⟩)
  · exact .inr h

mutual
theorem Rp.mono (e : Same G G') : ∀ {v : V} {d : D}, Rp K G v d → Rp K G' v d
  | _, _, .non => .non
  | _, _, .bl b => .bl b
  | _, _, .int i => .int i
  | _, _, .str x => .str x
  | _, _, .ty n => .ty n
  | _, _, .ref a => .ref a
  | _, _, .lst h r => .lst (same_l e h) (Rps.mono e r)
  | _, _, .tup h r => .tup (same_t e h) (Rps.mono e r)
  | _, _, .obj h r => .obj (e _ _ h) (Rfs.mono e r)
  | _, _, .xc h r => .xc (e _ _ h) (Rfs.mono e r)
theorem Rps.mono (e : Same G G') : ∀ {v : List V} {d : List D}, Rps K G v d → Rps K G' v d
  | _, _, .nil => .nil
  | _, _, .cons h r => .cons (Rp.mono e h) (Rps.mono e r)
theorem Rfs.mono (e : Same G G') : ∀ {v : List (Str × V)} {d : List (Str × D)}, Rfs K G v d → Rfs K G' v d
  | _, _, .nil => .nil
  | _, _, .cons h r => .cons (Rp.mono e h) (Rfs.mono e r)
end

theorem Rps.length : ∀ {vs : List V} {ds : List D}, Rps K G vs ds → vs.length = ds.length
  | _, _, .nil => rfl
  | _, _, .cons _ r => congrArg (· + 1) r.length
theorem Rps.append : ∀ {vs ws : List V} {ds es : List D}, Rps K G vs ds → Rps K G ws es → Rps K G (vs ++ ws) (ds ++ es)
  | _, _, _, _, .nil, s => s
  | _, _, _, _, .cons h r, s => .cons h (r.append s)
theorem Rps.get : ∀ {vs : List V} {ds : List D} {i : Nat} {d : D}, Rps K G vs ds → ds[i]? = some d → ∃ v, vs[i]? = some v ∧ Rp K G v d
  | _, _, _, _, .nil, e => by simp at e
  | _, _, 0, _, .cons h _, e => by simp at e; subst e; exact ⟨_, rfl, h⟩
  | _, _, i + 1, d, .cons _ r, e => by
    obtain ⟨v, h1, h2⟩ := Rps.get (i := i) (d := d) r (by simpa using e)
    exact ⟨v, by simpa using h1, h2⟩
theorem Rps.get' : ∀ {vs : List V} {ds : List D} {i : Nat} {v : V}, Rps K G vs ds → vs[i]? = some v → ∃ d, ds[i]? = some d ∧ Rp K G v d
  | _, _, _, _, .nil, e => by simp at e
  | _, _, 0, _, .cons h _, e => by simp at e; subst e; exact ⟨_, rfl, h⟩
  | _, _, i + 1, v, .cons _ r, e => by
    obtain ⟨d, h1, h2⟩ := Rps.get' (i := i) (v := v) r (by simpa using e)
    exact ⟨d, by simpa using h1, h2⟩
theorem Rps.take : ∀ {vs : List V} {ds : List D} (n : Nat), Rps K G vs ds → Rps K G (vs.take n) (ds.take n)
  | _, _, 0, _ => by simp; exact .nil
  | _, _, _ + 1, .nil => .nil
  | _, _, n + 1, .cons h r => .cons h (r.take n)
theorem Rps.drop : ∀ {vs : List V} {ds : List D} (n : Nat), Rps K G vs ds → Rps K G (vs.drop n) (ds.drop n)
  | _, _, 0, r => r
  | _, _, _ + 1, .nil => .nil
  | _, _, n + 1, .cons _ r => r.drop n
theorem Rps.set {v : V} {d : D} (h : Rp K G v d) : ∀ {vs : List V} {ds : List D} (i : Nat), Rps K G vs ds → Rps K G (vs.set i v) (ds.set i d)
  | _, _, _, .nil => .nil
  | _, _, 0, .cons _ r => .cons h r
  | _, _, i + 1, .cons q r => .cons q (r.set h i)
theorem Rps.reverse : ∀ {vs : List V} {ds : List D}, Rps K G vs ds → Rps K G vs.reverse ds.reverse
  | _, _, .nil => .nil
  | _, _, .cons h r => by
    rw [List.reverse_cons, List.reverse_cons]
    exact r.reverse.append (.cons h .nil)
theorem Rfs.lookup : ∀ {vs : List (Str × V)} {ds : List (Str × D)} {f : Str} {d : D}, Rfs K G vs ds → ds.lookup f = some d → ∃ v, vs.lookup f = some v ∧ Rp K G v d
  | _, _, _, _, .nil, e => by simp at e
  | _, _, f, d, .cons (f := g) h r, e => by
    rw [List.lookup_cons] at e
    rw [List.lookup_cons]
    by_cases q : f = g
    · have : (f == g) = true := by simpa using q
      simp only [this] at e ⊢
      cases e
      exact ⟨_, rfl, h⟩
    · have : (f == g) = false := by simpa using q
      simp only [this] at e ⊢
      exact Rfs.lookup r e
theorem Rfs.length : ∀ {vs : List (Str × V)} {ds : List (Str × D)}, Rfs K G vs ds → vs.length = ds.length
  | _, _, .nil => rfl
  | _, _, .cons _ r => congrArg (· + 1) r.length

/-- lists of ints, of texts -/
theorem rps_ints : ∀ ns : List Int, Rps K G (ns.map V.int) (ns.map D.int)
  | [] => .nil
  | n :: r => .cons (.int n) (rps_ints r)
theorem rps_strs : ∀ ns : List Str, Rps K G (ns.map V.str) (ns.map D.str)
  | [] => .nil
  | n :: r => .cons (.str n) (rps_strs r)
theorem rps_ints_inv : ∀ {vs : List V} {ns : List Int}, Rps K G vs (ns.map D.int) → vs = ns.map V.int
  | _, [], h => by cases h; rfl
  | _, n :: r, h => by
    cases h with
    | cons h q =>
      cases h
      rw [rps_ints_inv q] <;> rfl
theorem rps_strs_inv : ∀ {vs : List V} {ns : List Str}, Rps K G vs (ns.map D.str) → vs = ns.map V.str
  | _, [], h => by cases h; rfl
  | _, n :: r, h => by
    cases h with
    | cons h q =>
      cases h
      rw [rps_strs_inv q] <;> rfl

/-- a datum that no heap bears -/
def flatD : D → Bool
  | .non => true | .bl _ => true | .int _ => true | .str _ => true | .ty _ => true | .ref _ => true | _ => false
theorem Rp.flat {v : V} {d : D} (f : flatD d = true) (h : Rp K G v d) : Rp K G' v d := by
  cases h with
  | non => exact .non
  | bl b => exact .bl b
  | int b => exact .int b
  | str b => exact .str b
  | ty b => exact .ty b
  | ref b => exact .ref b
  | lst => cases f
  | tup => cases f
  | obj => cases f
  | xc => cases f

/-! ### the frame -/
structure Fw (G H G' H' : Hp) : Prop where
  g : Same G G'
  h : Same H H'
  e : Same G' H'
  n : ∀ a o, G' a = some o → G a = none → H a = none
theorem Same.back (s : Same H H') {a : Addr} (h : H' a = none) : H a = none := s.free h
theorem Fw.refl (e : Same G H) : Fw G H G H := ⟨Same.refl _, Same.refl _, e, fun _ _ h q => by rw [h] at q; cases q⟩
theorem Fw.trans (a : Fw G H G' H') (b : Fw G' H' G2 H2) : Fw G H G2 H2 := ⟨a.g.trans b.g, a.h.trans b.h, b.e, fun c o q n => by
  cases e : G' c with
  | some u => exact a.n c u e n
  | none => exact a.h.free (b.n c o q e)⟩
/-- a new object is laid, read-only -/
theorem Fw.new {a : Addr} {o : HO} (e : Same G H) (n : H a = none) : Fw G H (upd G a o) (upd H a o) := by
  have gn : G a = none := e.free n
  refine ⟨fun b u q => ?_, fun b u q => ?_, fun b u q => ?_, fun b u q m => ?_⟩
  · rw [upd_ne (ne_of_none q gn)]; exact q
  · rw [upd_ne (ne_of_none q n)]; exact q
  · by_cases z : b = a
    · subst z; rw [upd_same] at q; rw [upd_same]; exact q
    · rw [upd_ne z] at q; rw [upd_ne z]; exact e b u q
  · by_cases z : b = a
    · subst z; exact n
    · rw [upd_ne z, m] at q; cases q
/-- a new object is laid, one's own -/
theorem Fw.newO {a : Addr} {o : HO} (e : Same G H) (n : H a = none) : Fw G H G (upd H a o) := by
  refine ⟨Same.refl _, fun b u q => ?_, fun b u q => ?_, fun b u q m => ?_⟩
  · rw [upd_ne (ne_of_none q n)]; exact q
  · rw [upd_ne (ne_of_none (e b u q) n)]; exact e b u q
  · rw [m] at q; cases q
end
end Z

/-! Z2: slots, states, what a reading evaluates to. -/
namespace Z
open PySem PySem.Spec PyProof.Rows L2

inductive Ow where
  | lst (ds : List D) | dk (ks : List (Key × D))
inductive Sl where
  | un | dat (d : D) | own (o : Ow)
def Sl.toD : Sl → Option D
  | .dat d => some d
  | .own (.lst ds) => some (.lst ds)
  | _ => none
structure Xc where
  C : Addr
  fs : List (Str × D)
structure Bx where
  K : PySem.W.Frag
  G0 : Hp
  H0 : Hp

def OwOk (K : PySem.W.Frag) (G : Hp) : Ow → HO → Prop
  | .lst ds, u => ∃ xs, u = .lst xs ∧ Rps K G xs ds
  | .dk ks, u => ∃ kvs, u = .dK kvs ∧ Paired (fun (p : Key × V) (q : Key × D) => p.1 = q.1 ∧ Rp K G p.2 q.2) kvs ks
def SlOk (K : PySem.W.Frag) (G H : Hp) : Sl → Option V → Prop
  | .un, _ => True
  | .dat d, o => ∃ v, o = some v ∧ Rp K G v d
  | .own w, o => ∃ a u, o = some (.ref a) ∧ G a = none ∧ H a = some u ∧ OwOk K G w u
structure Stt (B : Bx) (Γ : List Sl) (σ : L2.St) (G H : Hp) : Prop where
  fw : Fw B.G0 B.H0 G H
  len : σ.length = Γ.length
  sl : ∀ (i : Nat) s, Γ[i]? = some s → SlOk B.K G H s ((σ[i]?).getD none)
  ap : ∀ (i j : Nat) o u a, Γ[i]? = some (.own o) → Γ[j]? = some (.own u) → σ[i]? = some (some (.ref a)) → σ[j]? = some (some (.ref a)) → i = j
  nw : ∀ (i : Nat) o a, Γ[i]? = some (.own o) → σ[i]? = some (some (.ref a)) → B.H0 a = none
def XOk (K : PySem.W.Frag) (G : Hp) (x : Xc) (cls : Value) (dd : Option Addr) : Prop :=
  cls = .ref x.C ∧ ((x.fs = [] ∧ dd = none) ∨ ∃ d vs, dd = some d ∧ G d = some (.xd vs) ∧ Rfs K G vs x.fs)

section
variable {K : PySem.W.Frag} {B : Bx} {Γ Γ' Γ1 Γ2 : List Sl} {σ σ' : L2.St} {G G' G2 H H' H2 : Hp}
theorem OwOk.mono (e : Same G G') {w : Ow} {u : HO} (h : OwOk K G w u) : OwOk K G' w u := by
  cases w with
  | lst ds => obtain ⟨xs, a, r⟩ := h; exact ⟨xs, a, r.mono e⟩
  | dk ks => obtain ⟨xs, a, r⟩ := h; exact ⟨xs, a, L2.Paired.mapP r fun p q z => ⟨z.1, z.2.mono e⟩⟩
theorem Fw.gone (f : Fw G H G' H') {a : Addr} (g : G a = none) {u : HO} (h : H a = some u) : G' a = none := by
  cases q : G' a with
  | none => rfl
  | some o => rw [f.n a o q g] at h; cases h
theorem SlOk.step {s : Sl} {o : Option V} (f : Fw G H G' H') (h : SlOk K G H s o) : SlOk K G' H' s o := by
  cases s with
  | un => trivial
  | dat d => obtain ⟨v, e, r⟩ := h; exact ⟨v, e, r.mono f.g⟩
  | own w => obtain ⟨a, u, e, g, z, r⟩ := h; exact ⟨a, u, e, f.gone g z, f.h _ _ z, r.mono f.g⟩
theorem Stt.step (S : Stt B Γ σ G H) (f : Fw G H G' H') : Stt B Γ σ G' H' :=
  ⟨S.fw.trans f, S.len, fun i s h => (S.sl i s h).step f, S.ap, S.nw⟩
theorem Stt.dat (S : Stt B Γ σ G H) {i : Nat} {d : D} (h : Γ[i]? = some (.dat d)) : ∃ v, σ[i]? = some (some v) ∧ Rp B.K G v d := by
  obtain ⟨v, e, r⟩ := S.sl i _ h
  cases q : σ[i]? with
  | none => rw [q] at e; cases e
  | some z => rw [q] at e; exact ⟨v, congrArg some e, r⟩
theorem Stt.own (S : Stt B Γ σ G H) {i : Nat} {w : Ow} (h : Γ[i]? = some (.own w)) : ∃ a u, σ[i]? = some (some (.ref a)) ∧ G a = none ∧ H a = some u ∧ OwOk B.K G w u ∧ B.H0 a = none := by
  obtain ⟨a, u, e, g, z, r⟩ := S.sl i _ h
  cases q : σ[i]? with
  | none => rw [q] at e; cases e
  | some y => rw [q] at e; cases (show y = some (.ref a) from e); exact ⟨a, u, rfl, g, z, r, S.nw i w a h q⟩
theorem Stt.same (S : Stt B Γ σ G H) : Same G H := S.fw.e
/-- a slot is given a datum -/
theorem Stt.set (S : Stt B Γ σ G H) {i : Nat} {v : V} {d : D} (hi : i < Γ.length) (r : Rp B.K G v d) : Stt B (Γ.set i (.dat d)) (σ.set i (some v)) G H := by
  have key : ∀ (j : Nat) (o : Ow), (Γ.set i (.dat d))[j]? = some (.own o) → j ≠ i ∧ Γ[j]? = some (.own o) := fun j o h => by
    by_cases e : j = i
    · subst e; rw [List.getElem?_set_self hi] at h; cases h
    · rw [List.getElem?_set_ne (Ne.symm e)] at h; exact ⟨e, h⟩
  refine ⟨S.fw, by simp [S.len], fun j s h => ?_, fun j k o u a h1 h2 h3 h4 => ?_, fun j o a h1 h2 => ?_⟩
  · by_cases e : j = i
    · subst e
      rw [List.getElem?_set_self hi] at h
      cases h
      rw [List.getElem?_set_self (by rw [S.len]; exact hi)]
      exact ⟨v, rfl, r⟩
    · rw [List.getElem?_set_ne (Ne.symm e)] at h
      rw [List.getElem?_set_ne (Ne.symm e)]
      exact S.sl j s h
  · obtain ⟨n1, g1⟩ := key j o h1
    obtain ⟨n2, g2⟩ := key k u h2
    rw [List.getElem?_set_ne (Ne.symm n1)] at h3
    rw [List.getElem?_set_ne (Ne.symm n2)] at h4
    exact S.ap j k o u a g1 g2 h3 h4
  · obtain ⟨n1, g1⟩ := key j o h1
    rw [List.getElem?_set_ne (Ne.symm n1)] at h2
    exact S.nw j o a g1 h2
/-- a slot is forgotten -/
theorem Stt.forget (S : Stt B Γ σ G H) {i : Nat} {o : Option V} (hi : i < Γ.length) : Stt B (Γ.set i .un) (σ.set i o) G H := by
  have key : ∀ (j : Nat) (o : Ow), (Γ.set i .un)[j]? = some (.own o) → j ≠ i ∧ Γ[j]? = some (.own o) := fun j o h => by
    by_cases e : j = i
    · subst e; rw [List.getElem?_set_self hi] at h; cases h
    · rw [List.getElem?_set_ne (Ne.symm e)] at h; exact ⟨e, h⟩
  refine ⟨S.fw, by simp [S.len], fun j s h => ?_, fun j k o u a h1 h2 h3 h4 => ?_, fun j o a h1 h2 => ?_⟩
  · by_cases e : j = i
    · subst e
      rw [List.getElem?_set_self hi] at h
      cases h
      trivial
    · rw [List.getElem?_set_ne (Ne.symm e)] at h
      rw [List.getElem?_set_ne (Ne.symm e)]
      exact S.sl j s h
  · obtain ⟨n1, g1⟩ := key j o h1
    obtain ⟨n2, g2⟩ := key k u h2
    rw [List.getElem?_set_ne (Ne.symm n1)] at h3
    rw [List.getElem?_set_ne (Ne.symm n2)] at h4
    exact S.ap j k o u a g1 g2 h3 h4
  · obtain ⟨n1, g1⟩ := key j o h1
    rw [List.getElem?_set_ne (Ne.symm n1)] at h2
    exact S.nw j o a g1 h2
/-- a slot is given an object of one's own -/
theorem Stt.setO (S : Stt B Γ σ G H) {i : Nat} {a : Addr} {u : HO} {w : Ow} (hi : i < Γ.length) (hg : G a = none) (hh : H a = some u) (r : OwOk B.K G w u) (h0 : B.H0 a = none)
    (hap : ∀ (j : Nat) o, j ≠ i → Γ[j]? = some (.own o) → σ[j]? ≠ some (some (.ref a))) : Stt B (Γ.set i (.own w)) (σ.set i (some (.ref a))) G H := by
  refine ⟨S.fw, by simp [S.len], fun j s h => ?_, fun j k o u' b h1 h2 h3 h4 => ?_, fun j o b h1 h2 => ?_⟩
  · by_cases e : j = i
    · subst e
      rw [List.getElem?_set_self hi] at h
      cases h
      rw [List.getElem?_set_self (by rw [S.len]; exact hi)]
      exact ⟨a, u, rfl, hg, hh, r⟩
    · rw [List.getElem?_set_ne (Ne.symm e)] at h
      rw [List.getElem?_set_ne (Ne.symm e)]
      exact S.sl j s h
  · by_cases ej : j = i
    · by_cases ek : k = i
      · rw [ej, ek]
      · subst ej
        rw [List.getElem?_set_self (by rw [S.len]; exact hi)] at h3
        cases h3
        rw [List.getElem?_set_ne (Ne.symm ek)] at h2 h4
        exact absurd h4 (hap k u' ek h2)
    · by_cases ek : k = i
      · subst ek
        rw [List.getElem?_set_self (by rw [S.len]; exact hi)] at h4
        cases h4
        rw [List.getElem?_set_ne (Ne.symm ej)] at h1 h3
        exact absurd h3 (hap j o ej h1)
      · rw [List.getElem?_set_ne (Ne.symm ej)] at h1 h3
        rw [List.getElem?_set_ne (Ne.symm ek)] at h2 h4
        exact S.ap j k o u' b h1 h2 h3 h4
  · by_cases ej : j = i
    · subst ej
      rw [List.getElem?_set_self (by rw [S.len]; exact hi)] at h2
      cases h2
      exact h0
    · rw [List.getElem?_set_ne (Ne.symm ej)] at h1 h2
      exact S.nw j o b h1 h2
/-- a new object is no other slot's -/
theorem Stt.apart (S : Stt B Γ σ G H) {a : Addr} (h : H a = none) : ∀ (j : Nat) o, Γ[j]? = some (.own o) → σ[j]? ≠ some (some (.ref a)) := fun j o hj e => by
  obtain ⟨b, u, e1, _, z, _, _⟩ := S.own hj
  rw [e] at e1
  cases e1
  rw [h] at z
  cases z
/-- one's own object changes -/
theorem Stt.mut (S : Stt B Γ σ G H) {i : Nat} {a : Addr} {w w' : Ow} {u' : HO} (hi : Γ[i]? = some (.own w)) (ha : σ[i]? = some (some (.ref a))) (r : OwOk B.K G w' u') : Stt B (Γ.set i (.own w')) σ G (upd H a u') := by
  obtain ⟨b, u, e1, hg, hh, _, h0⟩ := S.own hi
  rw [ha] at e1
  cases e1
  have hil : i < Γ.length := (List.getElem?_eq_some_iff.mp hi).1
  have key : ∀ (j : Nat) (o : Ow), (Γ.set i (.own w'))[j]? = some (.own o) → ∃ o', Γ[j]? = some (.own o') := fun j o h => by
    by_cases e : j = i
    · subst e; exact ⟨w, hi⟩
    · rw [List.getElem?_set_ne (Ne.symm e)] at h; exact ⟨o, h⟩
  refine ⟨⟨S.fw.g, fun b o q => ?_, fun b o q => ?_, S.fw.n⟩, by simp [S.len], fun j s h => ?_, fun j k o u2 b h1 h2 h3 h4 => ?_, fun j o b h1 h2 => ?_⟩
  · rw [upd_ne (ne_of_none q h0)]; exact S.fw.h b o q
  · rw [upd_ne (ne_of_none q hg)]; exact S.fw.e b o q
  · by_cases e : j = i
    · subst e
      rw [List.getElem?_set_self hil] at h
      cases h
      rw [ha]
      exact ⟨a, u', rfl, hg, upd_same, r⟩
    · rw [List.getElem?_set_ne (Ne.symm e)] at h
      have q := S.sl j s h
      cases s with
      | un => trivial
      | dat d => exact q
      | own o =>
        obtain ⟨b, u2, e2, g2, z2, r2⟩ := q
        refine ⟨b, u2, e2, g2, ?_, r2⟩
        rw [upd_ne]
        · exact z2
        · intro eb
          subst eb
          have e3 : σ[j]? = some (some (.ref b)) := by
            cases q : σ[j]? with
            | none => rw [q] at e2; cases e2
            | some y => rw [q] at e2; exact congrArg some e2
          exact e (S.ap j i o w b h hi e3 ha)
  · obtain ⟨o1, g1⟩ := key j o h1
    obtain ⟨o2, g2⟩ := key k u2 h2
    exact S.ap j k o1 o2 b g1 g2 h3 h4
  · obtain ⟨o1, g1⟩ := key j o h1
    exact S.nw j o1 b g1 h2
/-- one's own object is given up: it stands as read-only from now on -/
theorem Stt.freeze (S : Stt B Γ σ G H) {i : Nat} {ds : List D} (hi : Γ[i]? = some (.own (.lst ds))) : ∃ G', Same G G' ∧ Stt B (Γ.set i (.dat (.lst ds))) σ G' H := by
  obtain ⟨a, u, e1, hg, hh, ⟨xs, rfl, r⟩, h0⟩ := S.own hi
  have hil : i < Γ.length := (List.getElem?_eq_some_iff.mp hi).1
  have sg : Same G (upd G a (.lst xs)) := fun b o q => by rw [upd_ne (ne_of_none q hg)]; exact q
  have se : Same (upd G a (.lst xs)) H := fun b o q => by
    by_cases z : b = a
    · subst z; rw [upd_same] at q; cases q; exact hh
    · rw [upd_ne z] at q; exact S.fw.e b o q
  have key : ∀ (j : Nat) (o : Ow), (Γ.set i (.dat (.lst ds)))[j]? = some (.own o) → j ≠ i ∧ Γ[j]? = some (.own o) := fun j o h => by
    by_cases e : j = i
    · subst e; rw [List.getElem?_set_self hil] at h; cases h
    · rw [List.getElem?_set_ne (Ne.symm e)] at h; exact ⟨e, h⟩
  refine ⟨upd G a (.lst xs), sg, ⟨⟨S.fw.g.trans sg, S.fw.h, se, fun b o q n => ?_⟩, by simp [S.len], fun j s h => ?_, fun j k o u2 b h1 h2 h3 h4 => ?_, fun j o b h1 h2 => ?_⟩⟩
  · by_cases z : b = a
    · subst z; exact h0
    · rw [upd_ne z] at q; exact S.fw.n b o q n
  · by_cases e : j = i
    · subst e
      rw [List.getElem?_set_self hil] at h
      cases h
      rw [e1]
      exact ⟨.ref a, rfl, .lst (.inl (.inl upd_same)) (r.mono sg)⟩
    · rw [List.getElem?_set_ne (Ne.symm e)] at h
      have q := S.sl j s h
      cases s with
      | un => trivial
      | dat d => obtain ⟨v, e2, r2⟩ := q; exact ⟨v, e2, r2.mono sg⟩
      | own o =>
        obtain ⟨b, u2, e2, g2, z2, r2⟩ := q
        refine ⟨b, u2, e2, ?_, z2, r2.mono sg⟩
        rw [upd_ne]
        · exact g2
        · intro eb
          subst eb
          have e3 : σ[j]? = some (some (.ref b)) := by
            cases q : σ[j]? with
            | none => rw [q] at e2; cases e2
            | some y => rw [q] at e2; exact congrArg some e2
          exact e (S.ap j i o _ b h hi e3 e1)
  · obtain ⟨_, g1⟩ := key j o h1
    obtain ⟨_, g2⟩ := key k u2 h2
    exact S.ap j k o u2 b g1 g2 h3 h4
  · obtain ⟨_, g1⟩ := key j o h1
    exact S.nw j o b g1 h2
/-- what a call hands back -/
theorem Fw.freeze (f : Fw G H G' H') {a : Addr} {u : HO} (g : G' a = none) (h : H a = none) (h' : H' a = some u) : Fw G H (upd G' a u) H' := by
  refine ⟨fun b o q => ?_, f.h, fun b o q => ?_, fun b o q n => ?_⟩
  · rw [upd_ne (ne_of_none (f.g b o q) g)]; exact f.g b o q
  · by_cases z : b = a
    · subst z; rw [upd_same] at q; cases q; exact h'
    · rw [upd_ne z] at q; exact f.e b o q
  · by_cases z : b = a
    · subst z; exact h
    · rw [upd_ne z] at q; exact f.n b o q n
end
end Z

/-! Z3: what a reading evaluates to: rules for expressions. -/
namespace Z
open PySem PySem.Spec PyProof.Rows L2

def tx (l : List Nat) : Str := ⟨l.toArray⟩
theorem tx_length (l : List Nat) : (tx l).length = l.length := by show l.toArray.size = _; simp
theorem tx_append (a b : List Nat) : tx a ++ tx b = tx (a ++ b) := by
  show (⟨a.toArray ++ b.toArray⟩ : Str) = ⟨(a ++ b).toArray⟩
  simp
theorem tx_cps (l : List Nat) : (tx l).cps.toList = l := by simp [tx]
theorem tx_inj {a b : List Nat} : tx a = tx b ↔ a = b := by
  constructor
  · intro h
    have := congrArg (fun s : Str => s.cps.toList) h
    simpa [tx] using this
  · intro h; rw [h]
theorem tx_of (s : Str) : s = tx s.cps.toList := by cases s; simp [tx]

/-- a promise by data: F ds R E -/
abbrev Fn := List D → (Sl → Prop) → (Xc → Prop) → Prop
def RsOk (K : PySem.W.Frag) (H G' H' : Hp) : Sl → V → Prop
  | .un, _ => True
  | .dat d, v => Rp K G' v d
  | .own w, v => ∃ a u, v = .ref a ∧ G' a = none ∧ H a = none ∧ H' a = some u ∧ OwOk K G' w u
def spz (K : PySem.W.Frag) (F : Fn) : Sp := fun vs H Q E => ∃ (G : Hp) (ds : List D) (R : Sl → Prop) (X : Xc → Prop), Same G H ∧ Rps K G vs ds ∧ F ds R X ∧
  (∀ s v G' H', R s → Fw G H G' H' → RsOk K H G' H' s v → Q v H') ∧ (∀ x cls dd G' H', X x → Fw G H G' H' → XOk K G' x cls dd → E cls dd H')
theorem spz_len {K : PySem.W.Frag} {F : Fn} {n : Nat} (h : ∀ ds R X, F ds R X → ds.length = n) (vs : List V) (H : Hp) (Q : VK) (E : XK) (s : spz K F vs H Q E) : vs.length = n := by
  obtain ⟨G, ds, R, X, _, r, f, _⟩ := s
  rw [r.length, h ds R X f]

def Ev (B : Bx) (te : TE) (Γ : List Sl) (d : D) : Prop := ∀ σ G H Q, Stt B Γ σ G H → (∀ v G' H', Fw G H G' H' → Rp B.K G' v d → Q v H') → te σ H Q
def EvO (B : Bx) (te : TE) (Γ : List Sl) (w : Ow) : Prop := ∀ σ G H Q, Stt B Γ σ G H → (∀ a u G' H', Fw G H G' H' → G' a = none → H a = none → H' a = some u → OwOk B.K G' w u → Q (.ref a) H') → te σ H Q
def EvT (B : Bx) (tt : TT) (Γ : List Sl) (b : Bool) : Prop := ∀ σ G H Q, Stt B Γ σ G H → (∀ G' H', Fw G H G' H' → Q b H') → tt σ H Q
def EvA (B : Bx) (ta : TA) (Γ : List Sl) (ds : List D) : Prop := ∀ σ G H Q, Stt B Γ σ G H → (∀ vs G' H', Fw G H G' H' → Rps B.K G' vs ds → Q vs H') → ta σ H Q
def EvP (B : Bx) (to : TO) (Γ : List Sl) (o : Option Int) : Prop := ∀ σ G H Q, Stt B Γ σ G H → (∀ G' H', Fw G H G' H' → Q o H') → to σ H Q
/-- operations on values -/
def RV (B : Bx) (r : R2) (a b c : D) : Prop := ∀ x y G H Q, Same G H → Rp B.K G x a → Rp B.K G y b → (∀ v G' H', Fw G H G' H' → Rp B.K G' v c → Q v H') → r x y H Q
def RU (B : Bx) (r : V → Hp → VK → Prop) (a c : D) : Prop := ∀ x G H Q, Same G H → Rp B.K G x a → (∀ v G' H', Fw G H G' H' → Rp B.K G' v c → Q v H') → r x H Q
def RC (B : Bx) (r : List V → Hp → VK → Prop) (as : List D) (c : D) : Prop := ∀ xs G H Q, Same G H → Rps B.K G xs as → (∀ v G' H', Fw G H G' H' → Rp B.K G' v c → Q v H') → r xs H Q
def RM (B : Bx) (r : V → List V → Hp → VK → Prop) (a : D) (as : List D) (c : D) : Prop := ∀ x xs G H Q, Same G H → Rp B.K G x a → Rps B.K G xs as → (∀ v G' H', Fw G H G' H' → Rp B.K G' v c → Q v H') → r x xs H Q

section
variable {B : Bx} {Γ : List Sl} {ta tb tc te : TE} {tt tu : TT} {aa : TA} {a b c d : D} {as ds : List D} {r : R2} {i j k : Int}

theorem Ev.of_own {xs : List D} (h : EvO B te Γ (.lst xs)) : Ev B te Γ (.lst xs) := fun σ G H Q S q =>
  h σ G H Q S fun p u G' H' f g n e o => by
    obtain ⟨vs, rfl, r⟩ := o
    exact q (.ref p) (upd G' p (.lst vs)) H' (f.freeze g n e) (.lst (.inl (.inl upd_same)) (r.mono fun b o z => by rw [upd_ne (ne_of_none z g)]; exact z))
theorem ev_eq (h : Ev B te Γ a) (e : a = b) : Ev B te Γ b := e ▸ h
theorem evo_eq {w w' : Ow} (h : EvO B te Γ w) (e : w = w') : EvO B te Γ w' := e ▸ h
theorem evt_eq {p q : Bool} (h : EvT B tt Γ p) (e : p = q) : EvT B tt Γ q := e ▸ h

/-! ### names, constants -/
theorem ev_var {n : Nat} (h : Γ[n]? = some (.dat d)) : Ev B (tVar n) Γ d := fun σ G H Q S q => by
  obtain ⟨v, e, r⟩ := S.dat h
  exact ⟨v, e, q v G H (Fw.refl S.same) r⟩
theorem ev_c {v : V} (h : ∀ G, Rp B.K G v d) : Ev B (tC v) Γ d := fun σ G H Q S q => q v G H (Fw.refl S.same) (h G)
theorem ev_int : Ev B (tC (.int i)) Γ (.int i) := ev_c fun _ => .int i
theorem ev_bl {b : Bool} : Ev B (tC (.bl b)) Γ (.bl b) := ev_c fun _ => .bl b
theorem ev_non : Ev B (tC .non) Γ .non := ev_c fun _ => .non
theorem ev_ty {n : String} : Ev B (tC (.ty n)) Γ (.ty n) := ev_c fun _ => .ty n
theorem ev_ref {a : Addr} : Ev B (tC (.ref a)) Γ (.ref a) := ev_c fun _ => .ref a
theorem ev_str {x : Str} : Ev B (tC (.str x)) Γ (.str x) := ev_c fun _ => .str x
theorem ev_txt {x : Str} {l : List Nat} (h : x = tx l) : Ev B (tC (.str x)) Γ (.str (tx l)) := h ▸ ev_str
/-- a list or tuple of the module's own -/
theorem ev_kt {a : Addr} {xs : List V} (h : ∀ G, SqT B.K G a xs) (r : ∀ G, Rps B.K G xs ds) : Ev B (tC (.ref a)) Γ (.tup ds) := ev_c fun G => .tup (h G) (r G)
theorem ev_kl {a : Addr} {xs : List V} (h : ∀ G, SqL B.K G a xs) (r : ∀ G, Rps B.K G xs ds) : Ev B (tC (.ref a)) Γ (.lst ds) := ev_c fun G => .lst (h G) (r G)

/-! ### composition -/
theorem ev_op (ha : Ev B ta Γ a) (hb : Ev B tb Γ b) (hr : RV B r a b c) : Ev B (tOp r ta tb) Γ c := fun σ G H Q S q =>
  ha σ G H _ S fun x G1 H1 f1 r1 => hb σ G1 H1 _ (S.step f1) fun y G2 H2 f2 r2 => hr x y G2 H2 Q f2.e (r1.mono f2.g) r2 fun v G3 H3 f3 r3 => q v G3 H3 ((f1.trans f2).trans f3) r3
theorem ev_un {r : V → Hp → VK → Prop} (ha : Ev B ta Γ a) (hr : RU B r a c) : Ev B (tUn r ta) Γ c := fun σ G H Q S q =>
  ha σ G H _ S fun x G1 H1 f1 r1 => hr x G1 H1 Q f1.e r1 fun v G3 H3 f3 r3 => q v G3 H3 (f1.trans f3) r3
theorem eva_nil : EvA B tNil Γ [] := fun σ G H Q S q => q [] G H (Fw.refl S.same) .nil
theorem eva_cons {tr : TA} (h : Ev B te Γ d) (hr : EvA B tr Γ ds) : EvA B (tCons te tr) Γ (d :: ds) := fun σ G H Q S q =>
  h σ G H _ S fun v G1 H1 f1 r1 => hr σ G1 H1 _ (S.step f1) fun vs G2 H2 f2 r2 => q (v :: vs) G2 H2 (f1.trans f2) (.cons (r1.mono f2.g) r2)
theorem ev_cb {r : List V → Hp → VK → Prop} (ha : EvA B aa Γ as) (hr : RC B r as c) : Ev B (tCB r aa) Γ c := fun σ G H Q S q =>
  ha σ G H _ S fun x G1 H1 f1 r1 => hr x G1 H1 Q f1.e r1 fun v G3 H3 f3 r3 => q v G3 H3 (f1.trans f3) r3
theorem line_le {n : Nat} (h : n ≤ 16777216) : n ≤ sizeLine := by rw [sizeLine_eq]; exact h
theorem line_lt {n : Nat} (h : n < 16777216) : n < sizeLine := by rw [sizeLine_eq]; exact h
theorem ev_tup (ha : EvA B aa Γ ds) (hl : ds.length ≤ 16777216 := by decide) : Ev B (tTup aa) Γ (.tup ds) := fun σ G H Q S q =>
  ha σ G H _ S fun vs G1 H1 f1 r1 => ⟨by rw [r1.length]; exact line_le hl, fun p hp => q (.ref p) _ _ (f1.trans (Fw.new f1.e hp)) (.tup (.inl (.inl upd_same)) (r1.mono (Fw.new (o := .tup vs) f1.e hp).g))⟩
theorem evo_lst (ha : EvA B aa Γ ds) (hl : ds.length ≤ 16777216 := by decide) : EvO B (tLst aa) Γ (.lst ds) := fun σ G H Q S q =>
  ha σ G H _ S fun vs G1 H1 f1 r1 => ⟨by rw [r1.length]; exact line_le hl, fun p hp => q p (.lst vs) G1 _ (f1.trans (Fw.newO f1.e hp)) (f1.e.free hp) (f1.h.free hp) upd_same ⟨vs, rfl, r1⟩⟩
theorem ev_if {p : Bool} (h : EvT B tt Γ p) (h1 : p = true → Ev B ta Γ d) (h2 : p = false → Ev B tb Γ d) : Ev B (tIf tt ta tb) Γ d := fun σ G H Q S q =>
  h σ G H _ S fun G1 H1 f1 => by
    cases p with
    | true => exact h1 rfl σ G1 H1 Q (S.step f1) fun v G2 H2 f2 => q v G2 H2 (f1.trans f2)
    | false => exact h2 rfl σ G1 H1 Q (S.step f1) fun v G2 H2 f2 => q v G2 H2 (f1.trans f2)

/-! ### tests -/
theorem evt_test {p : Bool} (h : Ev B te Γ (.bl p)) : EvT B (tTest te) Γ p := fun σ G H Q S q =>
  h σ G H _ S fun v G1 H1 f1 r1 => by cases r1; exact ⟨p, rfl, q G1 H1 f1⟩
theorem evt_b {p : Bool} (h : Ev B te Γ (.bl p)) : EvT B (tB te) Γ p := fun σ G H Q S q =>
  h σ G H _ S fun v G1 H1 f1 r1 => by cases r1; exact ⟨p, rfl, q G1 H1 f1⟩
theorem evt_not {p : Bool} (h : EvT B tt Γ p) : EvT B (tNot tt) Γ (!p) := fun σ G H Q S q => h σ G H _ S q
theorem evt_and {p q : Bool} (h1 : EvT B tt Γ p) (h2 : p = true → EvT B tu Γ q) : EvT B (tAnd tt tu) Γ (p && q) := fun σ G H Q S k =>
  h1 σ G H _ S fun G1 H1 f1 => by
    cases p with
    | true => exact h2 rfl σ G1 H1 Q (S.step f1) fun G2 H2 f2 => k G2 H2 (f1.trans f2)
    | false => exact k G1 H1 f1
theorem evt_or {p q : Bool} (h1 : EvT B tt Γ p) (h2 : p = false → EvT B tu Γ q) : EvT B (tOr tt tu) Γ (p || q) := fun σ G H Q S k =>
  h1 σ G H _ S fun G1 H1 f1 => by
    cases p with
    | true => exact k G1 H1 f1
    | false => exact h2 rfl σ G1 H1 Q (S.step f1) fun G2 H2 f2 => k G2 H2 (f1.trans f2)
theorem evt_yes : EvT B tYes Γ true := fun σ G H Q S q => q G H (Fw.refl S.same)
theorem ev_and {p q : Bool} (h1 : Ev B ta Γ (.bl p)) (h2 : p = true → Ev B tb Γ (.bl q)) : Ev B (tAndV ta tb) Γ (.bl (p && q)) := fun σ G H Q S k =>
  h1 σ G H _ S fun v G1 H1 f1 r1 => by
    cases r1
    refine ⟨p, rfl, ?_⟩
    cases p with
    | true => exact h2 rfl σ G1 H1 Q (S.step f1) fun v G2 H2 f2 => k v G2 H2 (f1.trans f2)
    | false => exact k _ G1 H1 f1 (.bl false)
theorem ev_or {p q : Bool} (h1 : Ev B ta Γ (.bl p)) (h2 : p = false → Ev B tb Γ (.bl q)) : Ev B (tOrV ta tb) Γ (.bl (p || q)) := fun σ G H Q S k =>
  h1 σ G H _ S fun v G1 H1 f1 r1 => by
    cases r1
    refine ⟨p, rfl, ?_⟩
    cases p with
    | true => exact k _ G1 H1 f1 (.bl true)
    | false => exact h2 rfl σ G1 H1 Q (S.step f1) fun v G2 H2 f2 => k v G2 H2 (f1.trans f2)
theorem ev_not {p : Bool} (h1 : Ev B ta Γ (.bl p)) : Ev B (tNotV ta) Γ (.bl (!p)) := fun σ G H Q S k =>
  h1 σ G H _ S fun v G1 H1 f1 r1 => by cases r1; exact ⟨p, rfl, k _ G1 H1 f1 (.bl _)⟩

/-! ### a call of a def -/
theorem rs_toD {K : PySem.W.Frag} {G H G' H' : Hp} {s : Sl} {v : V} (f : Fw G H G' H') (e : s.toD = some d) (r : RsOk K H G' H' s v) : ∃ G2, Fw G H G2 H' ∧ Rp K G2 v d := by
  cases s with
  | un => cases e
  | dat z => cases e; exact ⟨G', f, r⟩
  | own w =>
    cases w with
    | dk _ => cases e
    | lst xs =>
      cases e
      obtain ⟨p, u, rfl, g, n, h, vs, rfl, r⟩ := r
      exact ⟨_, f.freeze g n h, .lst (.inl (.inl upd_same)) (r.mono fun b o z => by rw [upd_ne (ne_of_none z g)]; exact z)⟩
theorem ev_callS {F : Fn} {E : L2.St → XK} (ha : EvA B aa Γ as) (hF : F as (fun s => s.toD = some d) (fun _ => False)) : Ev B (tCallS (spz B.K F) E aa) Γ d := fun σ G H Q S q =>
  ha σ G H _ S fun vs G1 H1 f1 r1 => ⟨G1, as, _, _, f1.e, r1, hF, fun s v G' H' hs f' rs => by
    obtain ⟨G2, f2, r2⟩ := rs_toD f' hs rs
    exact q v G2 H' (f1.trans f2) r2, fun _ _ _ _ _ z => z.elim⟩
theorem ev_call {F : Fn} {E : XK} (ha : EvA B aa Γ as) (hF : F as (fun s => s.toD = some d) (fun _ => False)) : Ev B (tCall (spz B.K F) [] E aa) Γ d := fun σ G H Q S q =>
  ha σ G H _ S fun vs G1 H1 f1 r1 => by
    show spz B.K F (vs ++ []) H1 Q E
    rw [List.append_nil]
    exact ⟨G1, as, _, _, f1.e, r1, hF, fun s v G' H' hs f' rs => by
      obtain ⟨G2, f2, r2⟩ := rs_toD f' hs rs
      exact q v G2 H' (f1.trans f2) r2, fun _ _ _ _ _ z => z.elim⟩
theorem evo_callS {F : Fn} {E : L2.St → XK} {w : Ow} (ha : EvA B aa Γ as) (hF : F as (fun s => s = .own w) (fun _ => False)) : EvO B (tCallS (spz B.K F) E aa) Γ w := fun σ G H Q S q =>
  ha σ G H _ S fun vs G1 H1 f1 r1 => ⟨G1, as, _, _, f1.e, r1, hF, fun s v G' H' hs f' rs => by
    subst hs
    obtain ⟨p, u, rfl, g, n, h, o⟩ := rs
    exact q p u G' H' (f1.trans f') g (f1.h.free n) h o, fun _ _ _ _ _ z => z.elim⟩

/-! ### slices' parts -/
theorem evp_none : EvP B tNoPart Γ none := fun σ G H Q S q => q G H (Fw.refl S.same)
theorem evp_some (h : Ev B te Γ (.int i)) : EvP B (tPart te) Γ (some i) := fun σ G H Q S q =>
  h σ G H _ S fun v G1 H1 f1 r1 => by cases r1; exact ⟨i, rfl, q G1 H1 f1⟩
def RS (B : Bx) (r : V → Option Int → Option Int → Hp → VK → Prop) (a : D) (lo hi : Option Int) (c : D) : Prop := ∀ x G H Q, Same G H → Rp B.K G x a → (∀ v G' H', Fw G H G' H' → Rp B.K G' v c → Q v H') → r x lo hi H Q
theorem ev_sl {r : V → Option Int → Option Int → Hp → VK → Prop} {tl th : TO} {lo hi : Option Int} (h : Ev B te Γ a) (hl : EvP B tl Γ lo) (hh : EvP B th Γ hi) (hr : RS B r a lo hi c) : Ev B (tSl r te tl th) Γ c := fun σ G H Q S q =>
  h σ G H _ S fun x G1 H1 f1 r1 => hl σ G1 H1 _ (S.step f1) fun G2 H2 f2 => hh σ G2 H2 _ ((S.step f1).step f2) fun G3 H3 f3 =>
    hr x G3 H3 Q f3.e (r1.mono (f2.g.trans f3.g)) fun v G4 H4 f4 r4 => q v G4 H4 (((f1.trans f2).trans f3).trans f4) r4

/-! ### one's own list, looked at -/
theorem ev_thaw {n : Nat} {xs : List D} (hn : Γ[n]? = some (.own (.lst xs))) (hd : flatD d = true) (h : Ev B te (Γ.set n (.dat (.lst xs))) d) : Ev B te Γ d := fun σ G H Q S q => by
  obtain ⟨G1, s1, S1⟩ := S.freeze hn
  refine h σ G1 H Q S1 fun v G' H' f r => q v G H' ⟨Same.refl _, f.h, S.same.trans f.h, fun b o e m => by rw [m] at e; cases e⟩ (r.flat hd)
theorem evt_thaw {n : Nat} {xs : List D} {p : Bool} (hn : Γ[n]? = some (.own (.lst xs))) (h : EvT B tt (Γ.set n (.dat (.lst xs))) p) : EvT B tt Γ p := fun σ G H Q S q => by
  obtain ⟨G1, s1, S1⟩ := S.freeze hn
  exact h σ G1 H Q S1 fun G' H' f => q G H' ⟨Same.refl _, f.h, S.same.trans f.h, fun b o e m => by rw [m] at e; cases e⟩
end
end Z

/-! Z4: operators, subscripts, slices, built-ins: by values, and by data. -/
namespace Z
open PySem PySem.Spec PyProof.Rows L2
section
variable {X : Cx}

/-! ### + -/
def rCatL (K : PySem.W.Frag) : R2 := fun x y H Q => ∃ l b xs zs, x = .ref l ∧ y = .ref b ∧ SqL K H l xs ∧ SqL K H b zs ∧ xs.length + zs.length ≤ sizeLine ∧ ∀ p, H p = none → Q (.ref p) (upd H p (.lst (xs ++ zs)))
theorem op_catL : OpR X (binaryOp .Add) (rCatL X.K) := by
  intro pins s σ H x y v u Q I rx ry h
  obtain ⟨l, b, xs, zs, rfl, rfl, hH, hB, hz, q⟩ := h
  cases rx
  cases ry
  obtain ⟨its, r, ⟨⟨cls, dd, data, sl⟩, n, ho, hc, _, hd⟩, _⟩ := I.list hH
  obtain ⟨its2, r2, ⟨⟨cls2, dd2, data2, sl2⟩, n2, ho2, hc2, _, hd2⟩, _⟩ := I.list hB
  simp only at hc hd hc2 hd2
  subst hc hd hc2 hd2
  have ea : its.toArray ++ its2.toArray = (its ++ its2).toArray := by simp
  have e1 := r.length
  have e2 := r2.length
  refine concat_meets ⟨_, ho, rfl⟩ ⟨_, ho2, rfl⟩ noFill_list_add seq_list_add PySem.F.slot_list_add PySem.F.entry_list_add (PySem.F.args_list_add_2 _ _) (list_addW l b its.toArray its2.toArray n n2 dd dd2 sl sl2 (by rw [List.size_toArray, List.size_toArray]; omega)) ⟨ho, ho2, ?_⟩
  rw [ea]
  exact ⟨.ref _, _, I.lnew (t' := s.toks) (r.append r2) (by rw [List.length_append]; omega), rfl, q _ I.fresh⟩
def rAddI : R2 := rI0 fun i j => .int (i + j)
def rAddT : R2 := fun x y H Q => ∃ i j, x = .str i ∧ y = .str j ∧ i.length + j.length ≤ sizeLine ∧ Q (.str (i ++ j)) H
def zAdd (K : PySem.W.Frag) : R2 := fun x y H Q => rAddI x y H Q ∨ (rAddT x y H Q ∨ (rCatL K x y H Q ∨ rCatA K x y H Q))
theorem op_zAdd : OpR X (binaryOp .Add) (zAdd X.K) := OpR.or op_add (OpR.or op_add_str (OpR.or op_catL op_catA))
def zSub : R2 := rI0 fun i j => .int (i - j)
theorem op_zSub : OpR X (binaryOp .Sub) zSub := op_sub

/-! ### * -/
def rMulT : R2 := fun x y H Q => ∃ z k, x = .str z ∧ y = .int k ∧ MulOk z k ∧ Q (.str (Txt.mul z k)) H
theorem op_mulT : OpR X (binaryOp .Mult) rMulT := by
  intro pins s σ H x y v u Q I rx ry h
  obtain ⟨z, k, rfl, rfl, hm, q⟩ := h
  obtain ⟨t, rfl⟩ := rx
  obtain ⟨t', rfl⟩ := ry
  exact SB.mul hm fun t' k' => ⟨.str _, H, I.kept (t' := k') fun _ _ z => z, ⟨_, rfl⟩, q⟩
def zMul : R2 := fun x y H Q => rI CMulW (fun i j => .int (i * j)) x y H Q ∨ (rMulT x y H Q ∨ rRep x y H Q)
theorem op_zMul : OpR X (binaryOp .Mult) zMul := OpR.or op_mulW (OpR.or op_mulT op_rep)
def zDiv : R2 := rI CDivW fun i j => .int (i / j)
theorem op_zDiv : OpR X (binaryOp .FloorDiv) zDiv := op_fdivW
def zMod : R2 := rI (fun _ j => 0 < j) fun i j => .int (i % j)
theorem op_zMod : OpR X (binaryOp .Mod) zMod := op_mod
def zPow : R2 := rI CPow fun i j => .int (i ^ j.toNat)
theorem op_zPow : OpR X (binaryOp .Pow) zPow := op_pow

/-! ### comparisons -/
def zEq (K : PySem.W.Frag) : R2 := fun x y H Q => rEq x y H Q ∨ rEqD K x y H Q
def zNe (K : PySem.W.Frag) : R2 := fun x y H Q => rNe x y H Q ∨ rNeD K x y H Q
theorem op_zEq (hu : X.A.units + 64 < cLine) : OpR X (compareOp .Eq) (zEq X.K) := OpR.or op_eq (op_eqD hu)
theorem op_zNe (hu : X.A.units + 64 < cLine) : OpR X (compareOp .NotEq) (zNe X.K) := OpR.or op_ne (op_neD hu)
def zLt : R2 := rI0 fun i j => .bl (decide (i < j))
def zLe : R2 := rI0 fun i j => .bl (decide (i ≤ j))
def zGt : R2 := rI0 fun i j => .bl (decide (j < i))
def zGe : R2 := rI0 fun i j => .bl (decide (j ≤ i))
theorem op_zLt : OpR X (compareOp .Lt) zLt := op_lt
theorem op_zLe : OpR X (compareOp .LtE) zLe := op_le
theorem op_zGt : OpR X (compareOp .Gt) zGt := op_gt
theorem op_zGe : OpR X (compareOp .GtE) zGe := op_ge
def rInT (neg : Bool) : R2 := fun x y H Q => ∃ i j, x = .str i ∧ y = .str j ∧ Q (.bl (if neg then !(!(Builtin.Str.occurrences j i 0 j.length 1).isEmpty) else !(Builtin.Str.occurrences j i 0 j.length 1).isEmpty)) H
def zIn (K : PySem.W.Frag) (neg : Bool) : R2 := fun x y H Q => rInT neg x y H Q ∨ rIn K neg x y H Q
theorem op_zIn : OpR X (compareOp .In) (zIn X.K false) := OpR.or op_in_str op_in_seq
theorem op_zNotIn : OpR X (compareOp .NotIn) (zIn X.K true) := OpR.or op_notIn_str op_notIn_seq
def zIsN : R2 := fun x y H Q => y = .non ∧ Q (.bl (decide (x = .non))) H
def zNotN : R2 := fun x y H Q => y = .non ∧ Q (.bl (!decide (x = .non))) H
theorem op_zIsN : OpR X (compareOp .Is) zIsN := op_isN
theorem op_zNotN : OpR X (compareOp .IsNot) zNotN := op_notN

/-! ### subscripts, slices -/
def zIx (K : PySem.W.Frag) : R2 := rIx K
theorem ix_z : IxR X (zIx X.K) := ix_seq
def zSl (K : PySem.W.Frag) : V → Option Int → Option Int → Hp → VK → Prop := fun x lo hi H Q => rSlS x lo hi H Q ∨ (rSlL K x lo hi H Q ∨ rSlA K x lo hi H Q)
theorem sl_z : SlR X (zSl X.K) := SlR.or sl_str (SlR.or sl_list sl_tupA)
/-- t[::-1], t a text -/
def zRev (K : PySem.W.Frag) : V → Hp → VK → Prop := fun x H Q => ∃ z, x = .str z ∧ z.length ≤ sizeLine ∧ Q (.str (tx z.cps.toList.reverse)) H
theorem rev_picked (n : Nat) : Builtin.Str.strSliceIndices none none (-1) n = (List.range n).reverse := by
  rw [← PySem.W.krv_range n, ← PySem.W.krv_sliceRange n]
  rfl
theorem pe_rev {e : Expr} {te : TE} {p1 p2 p3 pos : Pos} {kk : Nat} (he : PE X e te) :
    PE X (.Subscript e (.Slice none none (some (.UnaryOp .USub (.Constant (.int 1) kk p1) p2)) p3) pos) (tUn (zRev X.K) te) := by
  refine ⟨fun pins s σ H Q I h => ?_⟩
  refine Subscript_ (thn (he.run pins s σ H _ I h) fun v s1 ⟨x, H1, I1, r1, q1⟩ => ?_)
  obtain ⟨z, rfl, hz, q⟩ := q1
  obtain ⟨t, rfl⟩ := r1
  have pm : PE X (.UnaryOp .USub (.Constant (.int 1) kk p1) p2) (tUn (rU fun i => .int (-i)) (tC (.int 1))) := pe_un un_neg pe_int
  refine wpAny_Slice ?_
  rw [evalPart_none]
  refine wpAny_pure (wpAny_pure ?_)
  rw [evalPart_some]
  refine thn (pm.run pins s1 σ H1 (fun y H2 => y = .int (-1) ∧ H2 = H1) I1 ⟨1, rfl, rfl, rfl⟩) fun vu s2 ⟨y, H2, I2, ry, e1, e2⟩ => ?_
  subst e1 e2
  obtain ⟨tk, rfl⟩ := ry
  have I4 : Inv X pins σ H2 { s2 with heap := s2.heap.push { cls := .type "slice", data := .fields #[.none, .none, .int (-1) tk] } } := I2.kept (t' := s2.toks) fun b ob q => Heap.get?_push_of_some _ q
  have hsl : (s2.heap.push { cls := .type "slice", data := .fields #[.none, .none, .int (-1) tk] }).IsSlice s2.heap.objs.size none none (some (-1, tk)) := ⟨_, Heap.get?_push_size _ rfl, rfl, rfl⟩
  have hmade : sliceMade z t none none (some (-1, tk)) = Made.str (tx z.cps.toList.reverse) := by
    unfold sliceMade
    rw [if_neg (by simp)]
    have e1 : slicePicked z none none (some (-1, tk)) = (List.range z.length).reverse := rev_picked _
    rw [e1, List.filterMap_reverse]
    have e2 : (List.range z.length).filterMap (fun x => z.cps[x]?) = z.cps.toList := by
      have := PySem.W.krv_all z.cps
      exact this
    rw [e2]
    rfl
  have hlen : (tx z.cps.toList.reverse).length ≤ sizeLine := by rw [tx_length, List.length_reverse, Array.length_toList]; exact hz
  refine tail_any (T := "str") (ops := [.ref s2.heap.objs.size, .str z t]) (typeIs_str _ _ _) PySem.F.slot_str_getitem.lookup ?_ (by with_unfolding_all rfl)
  refine wpAny_getItem_str_slice (l := none) (u := none) (st := some (-1, tk)) hsl rfl ?_
  rw [hmade]
  exact ⟨hlen, .str _, H2, I4.tok _, ⟨_, rfl⟩, q⟩

/-! ### built-ins -/
def zLen (K : PySem.W.Frag) : List V → Hp → VK → Prop := fun xs H Q => ∃ x n, xs = [x] ∧ LenV K x H n ∧ Q (.int n) H
theorem call_zLen : CallR X (.builtin "len") (zLen X.K) := call_len
def zInt : List V → Hp → VK → Prop := fun xs H Q => (∃ i, xs = [.int i] ∧ Q (.int i) H) ∨ ∃ k, xs = [.bl k] ∧ Q (.int (if k then 1 else 0)) H
theorem call_zInt : CallR X (.type "int") zInt := call_int1
def zMin2 : List V → Hp → VK → Prop := fun xs H Q => ∃ i j, xs = [.int i, .int j] ∧ Q (.int (if j < i then j else i)) H
def zMax2 : List V → Hp → VK → Prop := fun xs H Q => ∃ i j, xs = [.int i, .int j] ∧ Q (.int (if j > i then j else i)) H
theorem call_zMin2 (hc : X.calm = true) : CallR X (.builtin "min") zMin2 := call_min2 hc
theorem call_zMax2 (hc : X.calm = true) : CallR X (.builtin "max") zMax2 := call_max2 hc
def zIsi (K : PySem.W.Frag) : List V → Hp → VK → Prop := rIsi K
theorem call_zIsi : CallR X (.builtin "isinstance") (zIsi X.K) := call_isi
end

/-! ### by data -/
section
variable {B : Bx} {i j k : Int} {a b : List Nat} {p q : Bool} {as bs : List D} {d e : D}
theorem Fw.id {G H : Hp} (s : Same G H) : Fw G H G H := Fw.refl s
theorem rv_add : RV B (zAdd B.K) (.int i) (.int j) (.int (i + j)) := fun x y G H Q s rx ry q => by
  cases rx; cases ry; exact .inl ⟨i, j, rfl, rfl, q _ G H (.refl s) (.int _)⟩
theorem rv_addT (h : a.length + b.length ≤ 16777216) : RV B (zAdd B.K) (.str (tx a)) (.str (tx b)) (.str (tx (a ++ b))) := fun x y G H Q s rx ry q => by
  cases rx; cases ry; exact .inr (.inl ⟨_, _, rfl, rfl, by rw [tx_length, tx_length]; exact line_le h, q _ G H (.refl s) (by rw [tx_append]; exact .str _)⟩)
theorem rv_addL (h : as.length + bs.length ≤ 16777216) : RV B (zAdd B.K) (.lst as) (.lst bs) (.lst (as ++ bs)) := fun x y G H Q s rx ry q => by
  cases rx with
  | lst h1 r1 =>
    cases ry with
    | lst h2 r2 =>
      refine .inr (.inr (.inl ⟨_, _, _, _, rfl, rfl, same_l s h1, same_l s h2, by rw [r1.length, r2.length]; exact line_le h, fun p hp => q _ _ _ (.new s hp) (.lst (.inl (.inl upd_same)) ?_)⟩))
      exact (r1.append r2).mono (Fw.new (o := .lst _) s hp).g
theorem rv_addU (h : as.length + bs.length ≤ 16777216) : RV B (zAdd B.K) (.tup as) (.tup bs) (.tup (as ++ bs)) := fun x y G H Q s rx ry q => by
  cases rx with
  | tup h1 r1 =>
    cases ry with
    | tup h2 r2 =>
      refine .inr (.inr (.inr ⟨_, _, _, _, rfl, rfl, same_t s h1, same_t s h2, by rw [r1.length, r2.length]; exact line_le h, fun e => ?_, fun n e => ?_, fun n m p hp => ?_⟩))
      · subst e; cases r1; exact q _ G H (.refl s) (.tup h2 r2)
      · subst e; cases r2; exact q _ G H (.refl s) (.tup h1 (by rw [List.append_nil]; exact r1))
      · exact q _ _ _ (.new s hp) (.tup (.inl (.inl upd_same)) ((r1.append r2).mono (Fw.new (o := .tup _) s hp).g))
theorem rv_sub : RV B zSub (.int i) (.int j) (.int (i - j)) := fun x y G H Q s rx ry q => by
  cases rx; cases ry; exact ⟨i, j, rfl, rfl, q _ G H (.refl s) (.int _)⟩
theorem rv_mul (h : CMulW i j) : RV B zMul (.int i) (.int j) (.int (i * j)) := fun x y G H Q s rx ry q => by
  cases rx; cases ry; exact .inl ⟨i, j, rfl, rfl, h, q _ G H (.refl s) (.int _)⟩
theorem rv_div (h : CDivW i j) : RV B zDiv (.int i) (.int j) (.int (i / j)) := fun x y G H Q s rx ry q => by
  cases rx; cases ry; exact ⟨i, j, rfl, rfl, h, q _ G H (.refl s) (.int _)⟩
theorem rv_mod (h : 0 < j) : RV B zMod (.int i) (.int j) (.int (i % j)) := fun x y G H Q s rx ry q => by
  cases rx; cases ry; exact ⟨i, j, rfl, rfl, h, q _ G H (.refl s) (.int _)⟩
theorem rv_pow (h : CPow i j) : RV B zPow (.int i) (.int j) (.int (i ^ j.toNat)) := fun x y G H Q s rx ry q => by
  cases rx; cases ry; exact ⟨i, j, rfl, rfl, h, q _ G H (.refl s) (.int _)⟩
/-- a text n times -/
def rep (n : Nat) (a : List Nat) : List Nat := (List.replicate n a).flatten
theorem rep_length (n : Nat) (a : List Nat) : (rep n a).length = n * a.length := by simp [rep]
theorem fold_rep (a : List Nat) : ∀ (n : Nat) (acc : Array Nat), (List.replicate n a.toArray).foldl (· ++ ·) acc = acc ++ (rep n a).toArray
  | 0, acc => by simp [rep]
  | n + 1, acc => by
    rw [List.replicate_succ, List.foldl_cons, fold_rep a n]
    simp [rep, List.replicate_succ]
theorem txt_mul (a : List Nat) (k : Int) : Txt.mul (tx a) k = tx (rep k.toNat a) := by
  unfold Txt.mul
  by_cases h1 : k < 1
  · rw [if_pos h1]
    have : k.toNat = 0 := by omega
    rw [this]; rfl
  · rw [if_neg h1]
    by_cases h2 : (k == 1 || (tx a).length == 0) = true
    · rw [if_pos h2]
      rw [Bool.or_eq_true] at h2
      rcases h2 with h2 | h2
      · have : k = 1 := by simpa using h2
        subst this
        simp [rep, tx]
      · rw [tx_length] at h2
        have : a = [] := by simpa using h2
        subst this
        congr 1
        simp [rep, tx]
    · rw [if_neg h2]
      show (⟨_⟩ : Str) = ⟨_⟩
      congr 1
      have := fold_rep a k.toNat #[]
      simpa [tx] using this
theorem rv_mulT (h1 : -(2 ^ 62) < k) (h2 : k < 2 ^ 62) (h : a.length * k.toNat ≤ 16777216) : RV B zMul (.str (tx a)) (.int k) (.str (tx (rep k.toNat a))) := fun x y G H Q s rx ry q => by
  cases rx; cases ry
  refine .inr (.inl ⟨_, k, rfl, rfl, ⟨?_, fun h3 h4 => ?_, fun h3 h4 => ?_⟩, ?_⟩)
  · have e1 : ¬ k < -(2 ^ 63 : Int) := by omega
    have e2 : ¬ k ≥ (2 ^ 63 : Int) := by omega
    rw [decide_eq_false e1, decide_eq_false e2]; rfl
  · rw [tx_length]
    intro h5
    have h6 : (a.length : Int) * k ≤ 16777216 := by
      have : ((a.length * k.toNat : Nat) : Int) ≤ 16777216 := Int.ofNat_le.mpr h
      have e : (k.toNat : Int) = k := Int.toNat_of_nonneg (by omega)
      rw [Int.natCast_mul, e] at this
      exact this
    have h7 : (2 ^ 63 - 1) / k * k ≤ 2 ^ 63 - 1 := Int.ediv_mul_le _ (by omega)
    have h8 : 0 < k := by omega
    have h9 : ((2 ^ 63 - 1) / k + 1) * k > 2 ^ 63 - 1 := by
      have := Int.lt_ediv_add_one_mul_self (2 ^ 63 - 1) h8
      exact this
    have h10 : ((2 ^ 63 - 1) / k + 1) * k ≤ (a.length : Int) * k := Int.mul_le_mul_of_nonneg_right (by omega) (by omega)
    omega
  · rw [tx_length]
    unfold Builtin.Str.tooLong
    rw [sizeLine_eq]
    simp
    exact h
  · rw [txt_mul]; exact q _ G H (.refl s) (.str _)

theorem rv_lt : RV B zLt (.int i) (.int j) (.bl (decide (i < j))) := fun x y G H Q s rx ry q => by
  cases rx; cases ry; exact ⟨i, j, rfl, rfl, q _ G H (.refl s) (.bl _)⟩
theorem rv_le : RV B zLe (.int i) (.int j) (.bl (decide (i ≤ j))) := fun x y G H Q s rx ry q => by
  cases rx; cases ry; exact ⟨i, j, rfl, rfl, q _ G H (.refl s) (.bl _)⟩
theorem rv_gt : RV B zGt (.int i) (.int j) (.bl (decide (j < i))) := fun x y G H Q s rx ry q => by
  cases rx; cases ry; exact ⟨i, j, rfl, rfl, q _ G H (.refl s) (.bl _)⟩
theorem rv_ge : RV B zGe (.int i) (.int j) (.bl (decide (j ≤ i))) := fun x y G H Q s rx ry q => by
  cases rx; cases ry; exact ⟨i, j, rfl, rfl, q _ G H (.refl s) (.bl _)⟩

/-! equality -/
mutual
def D.py : D → Option PyData
  | .non => some .none
  | .bl b => some (.bool b)
  | .int i => some (.int i)
  | .str x => some (.str x)
  | .lst l => (pyAll l).map .list
  | .tup l => (pyAll l).map .tuple
  | _ => none
def pyAll : List D → Option (List PyData)
  | [] => some []
  | d :: r => (D.py d).bind fun p => (pyAll r).map fun q => p :: q
end
mutual
theorem Rp.dp {K : PySem.W.Frag} {G H : Hp} (s : Same G H) : ∀ {v : V} {d : D} {p : PyData}, Rp K G v d → d.py = some p → Dp K H v p
  | _, _, _, .non, e => by cases e; exact .non
  | _, _, _, .bl b, e => by cases e; exact .bl b
  | _, _, _, .int b, e => by cases e; exact .int b
  | _, _, _, .str b, e => by cases e; exact .str b
  | _, _, _, .ty b, e => by cases e
  | _, _, _, .ref b, e => by cases e
  | _, _, _, .obj _ _, e => by cases e
  | _, _, _, .xc _ _, e => by cases e
  | _, _, _, .lst (ds := ds) h r, e => by
    have e' : (pyAll ds).map PyData.list = some _ := e
    cases q : pyAll ds with
    | none => rw [q] at e'; cases e'
    | some ps => rw [q] at e'; cases e'; exact .lst (same_l s h) (Rps.dp s r q)
  | _, _, _, .tup (ds := ds) h r, e => by
    have e' : (pyAll ds).map PyData.tuple = some _ := e
    cases q : pyAll ds with
    | none => rw [q] at e'; cases e'
    | some ps => rw [q] at e'; cases e'; exact .tup (same_t s h) (Rps.dp s r q)
theorem Rps.dp {K : PySem.W.Frag} {G H : Hp} (s : Same G H) : ∀ {v : List V} {d : List D} {p : List PyData}, Rps K G v d → pyAll d = some p → DpAll K H v p
  | _, _, _, .nil, e => by cases e; exact .nil
  | _, _, _, .cons (d := d) (ds := ds) h r, e => by
    have e' : (D.py d).bind (fun p => (pyAll ds).map fun q => p :: q) = some _ := e
    cases q : D.py d with
    | none => rw [q] at e'; cases e'
    | some x =>
      rw [q] at e'
      cases q2 : pyAll ds with
      | none => rw [q2] at e'; cases e'
      | some y =>
        rw [q2] at e'
        cases e'
        exact .cons (Rp.dp s h q) (Rps.dp s r q2)
end
theorem rv_eqD {u v : PyData} (h1 : d.py = some u) (h2 : e.py = some v) (s1 : SeqAt.shaped u = true) (s2 : SeqAt.shaped v = true) : RV B (zEq B.K) d e (.bl (PyData.eqv u v)) := fun x y G H Q s rx ry q =>
  .inr ⟨u, v, rx.dp s h1, ry.dp s h2, s1, s2, q _ G H (.refl s) (.bl _)⟩
theorem rv_neD {u v : PyData} (h1 : d.py = some u) (h2 : e.py = some v) (s1 : SeqAt.shaped u = true) (s2 : SeqAt.shaped v = true) : RV B (zNe B.K) d e (.bl (!PyData.eqv u v)) := fun x y G H Q s rx ry q =>
  .inr ⟨u, v, rx.dp s h1, ry.dp s h2, s1, s2, q _ G H (.refl s) (.bl _)⟩
theorem rv_eqI : RV B (zEq B.K) (.int i) (.int j) (.bl (decide (i = j))) := fun x y G H Q s rx ry q => by
  cases rx; cases ry
  refine .inl ⟨rfl, ?_⟩
  have e : decide (V.int i = V.int j) = decide (i = j) := by rw [dec_int, Bool.beq_eq_decide_eq]
  rw [e]; exact q _ G H (.refl s) (.bl _)
theorem rv_neI : RV B (zNe B.K) (.int i) (.int j) (.bl (!decide (i = j))) := fun x y G H Q s rx ry q => by
  cases rx; cases ry
  refine .inl ⟨rfl, ?_⟩
  have e : decide (V.int i = V.int j) = decide (i = j) := by rw [dec_int, Bool.beq_eq_decide_eq]
  rw [e]; exact q _ G H (.refl s) (.bl _)
theorem dec_tx (a b : List Nat) : decide (V.str (tx a) = V.str (tx b)) = decide (a = b) := by
  rw [Bool.eq_iff_iff]; simp [tx_inj]
theorem rv_eqT : RV B (zEq B.K) (.str (tx a)) (.str (tx b)) (.bl (decide (a = b))) := fun x y G H Q s rx ry q => by
  cases rx; cases ry
  refine .inl ⟨rfl, ?_⟩
  rw [dec_tx]; exact q _ G H (.refl s) (.bl _)
theorem rv_neT : RV B (zNe B.K) (.str (tx a)) (.str (tx b)) (.bl (!decide (a = b))) := fun x y G H Q s rx ry q => by
  cases rx; cases ry
  refine .inl ⟨rfl, ?_⟩
  rw [dec_tx]; exact q _ G H (.refl s) (.bl _)
theorem rv_eqB : RV B (zEq B.K) (.bl p) (.bl q) (.bl (p == q)) := fun x y G H Q s rx ry k => by
  cases rx; cases ry
  refine .inl ⟨rfl, ?_⟩
  rw [dec_bl]; exact k _ G H (.refl s) (.bl _)
theorem rv_neB : RV B (zNe B.K) (.bl p) (.bl q) (.bl (!(p == q))) := fun x y G H Q s rx ry k => by
  cases rx; cases ry
  refine .inl ⟨rfl, ?_⟩
  rw [dec_bl]; exact k _ G H (.refl s) (.bl _)

/-! in -/
theorem rv_inT {c : Nat} : RV B (zIn B.K false) (.str (tx [c])) (.str (tx a)) (.bl (decide (c ∈ a))) := fun x y G H Q s rx ry q => by
  cases rx; cases ry
  refine .inl ⟨_, _, rfl, rfl, ?_⟩
  have e : (!(Builtin.Str.occurrences (tx a) (tx [c]) 0 (tx a).length 1).isEmpty) = decide (c ∈ a) := by
    have := StrLaws.found_one (tx a) c
    rw [tx_cps] at this
    exact this
  show Q (.bl (!(Builtin.Str.occurrences (tx a) (tx [c]) 0 (tx a).length 1).isEmpty)) H
  rw [e]; exact q _ G H (.refl s) (.bl _)
theorem rv_ninT {c : Nat} : RV B (zIn B.K true) (.str (tx [c])) (.str (tx a)) (.bl (!decide (c ∈ a))) := fun x y G H Q s rx ry q => by
  cases rx; cases ry
  refine .inl ⟨_, _, rfl, rfl, ?_⟩
  have e : (!(Builtin.Str.occurrences (tx a) (tx [c]) 0 (tx a).length 1).isEmpty) = decide (c ∈ a) := by
    have := StrLaws.found_one (tx a) c
    rw [tx_cps] at this
    exact this
  show Q (.bl (!(!(Builtin.Str.occurrences (tx a) (tx [c]) 0 (tx a).length 1).isEmpty))) H
  rw [e]; exact q _ G H (.refl s) (.bl _)
theorem inV_txs (x : List Nat) : ∀ xs : List (List Nat), inV (.str (tx x)) (xs.map fun a => V.str (tx a)) = decide (x ∈ xs)
  | [] => by simp [inV]
  | y :: r => by
    have ih := inV_txs x r
    unfold inV at ih ⊢
    rw [List.map_cons, List.any_cons, ih]
    show ((tx y) == (tx x) || decide (x ∈ r)) = decide (x ∈ y :: r)
    rw [Bool.eq_iff_iff]
    simp [tx_inj]
    constructor <;> rintro (h | h) <;> first | exact .inl h.symm | exact .inr h
theorem flat_txs : ∀ xs : List (List Nat), (xs.map fun a => V.str (tx a)).all flatV = true
  | [] => rfl
  | _ :: r => by rw [List.map_cons, List.all_cons, flat_txs r]; rfl
theorem rps_txs_inv {K : PySem.W.Frag} {G : Hp} : ∀ {vs : List V} {xs : List (List Nat)}, Rps K G vs (xs.map fun a => D.str (tx a)) → vs = xs.map fun a => V.str (tx a)
  | _, [], h => by cases h; rfl
  | _, n :: r, h => by
    cases h with
    | cons h q =>
      cases h
      rw [rps_txs_inv q] <;> rfl
theorem rps_txs {K : PySem.W.Frag} {G : Hp} : ∀ xs : List (List Nat), Rps K G (xs.map fun a => V.str (tx a)) (xs.map fun a => D.str (tx a))
  | [] => .nil
  | n :: r => .cons (.str _) (rps_txs r)
theorem rv_inTs {xs : List (List Nat)} : RV B (zIn B.K false) (.str (tx a)) (.tup (xs.map fun a => .str (tx a))) (.bl (decide (a ∈ xs))) := fun x y G H Q s rx ry q => by
  cases rx
  cases ry with
  | tup h r =>
    have e := rps_txs_inv r
    subst e
    refine .inr ⟨_, _, rfl, .inr (same_t s h), rfl, flat_txs xs, ?_⟩
    show Q (.bl (inV (.str (tx a)) (xs.map fun a => V.str (tx a)))) H
    rw [inV_txs]; exact q _ G H (.refl s) (.bl _)
theorem rv_ninTs {xs : List (List Nat)} : RV B (zIn B.K true) (.str (tx a)) (.tup (xs.map fun a => .str (tx a))) (.bl (!decide (a ∈ xs))) := fun x y G H Q s rx ry q => by
  cases rx
  cases ry with
  | tup h r =>
    have e := rps_txs_inv r
    subst e
    refine .inr ⟨_, _, rfl, .inr (same_t s h), rfl, flat_txs xs, ?_⟩
    show Q (.bl (!inV (.str (tx a)) (xs.map fun a => V.str (tx a)))) H
    rw [inV_txs]; exact q _ G H (.refl s) (.bl _)
theorem rv_isN : RV B zIsN .non .non (.bl true) := fun x y G H Q s rx ry q => by
  cases rx; cases ry; exact ⟨rfl, q _ G H (.refl s) (.bl _)⟩
def D.isNon : D → Bool
  | .non => true
  | _ => false
theorem rp_non {K : PySem.W.Frag} {G : Hp} {v : V} {d : D} (r : Rp K G v d) : decide (v = .non) = d.isNon := by
  cases r <;> rfl
theorem rv_isN' : RV B zIsN d .non (.bl d.isNon) := fun x y G H Q s rx ry q => by
  cases ry; refine ⟨rfl, ?_⟩; rw [rp_non rx]; exact q _ G H (.refl s) (.bl _)
theorem rv_notN' : RV B zNotN d .non (.bl (!d.isNon)) := fun x y G H Q s rx ry q => by
  cases ry; refine ⟨rfl, ?_⟩; rw [rp_non rx]; exact q _ G H (.refl s) (.bl _)

/-! items -/
theorem atI_rps {K : PySem.W.Frag} {G : Hp} {vs : List V} {ds : List D} (r : Rps K G vs ds) (h : atI ds i = some d) : ∃ v, atI vs i = some v ∧ Rp K G v d := by
  unfold atI at h ⊢
  rw [r.length]
  cases e : ixN ds.length i with
  | none => rw [e] at h; cases h
  | some n =>
    rw [e] at h
    exact r.get h
theorem rv_ixL (h : atI as i = some d) : RV B (zIx B.K) (.lst as) (.int i) d := fun x y G H Q s rx ry q => by
  cases ry
  cases rx with
  | lst h1 r1 =>
    obtain ⟨v, e, r⟩ := atI_rps r1 h
    exact .inl ⟨_, _, i, v, rfl, rfl, same_l s h1, e, q v G H (.refl s) r⟩
theorem rv_ixU (h : atI as i = some d) : RV B (zIx B.K) (.tup as) (.int i) d := fun x y G H Q s rx ry q => by
  cases ry
  cases rx with
  | tup h1 r1 =>
    obtain ⟨v, e, r⟩ := atI_rps r1 h
    exact .inr (.inl ⟨_, _, i, v, rfl, rfl, same_t s h1, e, q v G H (.refl s) r⟩)
theorem rv_ixT {c : Nat} (h : atI a i = some c) (hl : a.length ≤ 16777216) : RV B (zIx B.K) (.str (tx a)) (.int i) (.str (tx [c])) := fun x y G H Q s rx ry q => by
  cases ry; cases rx
  exact .inr (.inr ⟨_, i, c, rfl, rfl, by rw [tx_length]; exact line_le hl, by rw [tx_cps]; exact h, q _ G H (.refl s) (.str (tx [c]))⟩)
theorem atI_ofNat {α : Type} {xs : List α} {n : Nat} {x : α} (h : xs[n]? = some x) : atI xs (n : Int) = some x := atI_nat h

/-! slices -/
def cut {α : Type} (xs : List α) (lo hi : Option Int) : List α := (xs.drop (HT.sIx xs.length 0 lo)).take (HT.sIx xs.length xs.length hi - HT.sIx xs.length 0 lo)
theorem cut_len {α : Type} (xs : List α) (lo hi : Option Int) : (cut xs lo hi).length ≤ xs.length := by
  unfold cut
  rw [List.length_take, List.length_drop]
  omega
theorem rps_cut {K : PySem.W.Frag} {G : Hp} {vs : List V} {ds : List D} (r : Rps K G vs ds) (lo hi : Option Int) : Rps K G (cutV vs lo hi) (cut ds lo hi) := by
  unfold cutV cut
  rw [r.length]
  exact (r.drop _).take _
theorem rs_slT {lo hi : Option Int} (hl : a.length ≤ 16777216) : RS B (zSl B.K) (.str (tx a)) lo hi (.str (tx (cut a lo hi))) := fun x G H Q s rx q => by
  cases rx
  refine .inl ⟨_, rfl, by rw [tx_length]; exact line_le hl, ?_⟩
  have e : cutS (tx a) lo hi = tx (cut a lo hi) := by
    unfold cutS cut
    rw [tx_length, tx_cps]
    rfl
  rw [e]; exact q _ G H (.refl s) (.str _)
theorem rs_slL {lo hi : Option Int} : RS B (zSl B.K) (.lst as) lo hi (.lst (cut as lo hi)) := fun x G H Q s rx q => by
  cases rx with
  | lst h1 r1 =>
    refine .inr (.inl ⟨_, _, rfl, same_l s h1, fun p hp => q _ _ _ (.new s hp) (.lst (.inl (.inl upd_same)) ?_)⟩)
    exact (rps_cut r1 lo hi).mono (Fw.new (o := .lst _) s hp).g
theorem rs_slU {lo hi : Option Int} : RS B (zSl B.K) (.tup as) lo hi (.tup (cut as lo hi)) := fun x G H Q s rx q => by
  cases rx with
  | tup h1 r1 =>
    refine .inr (.inr ⟨_, _, rfl, same_t s h1, fun e => ?_, fun e p hp => q _ _ _ (.new s hp) (.tup (.inl (.inl upd_same)) ?_)⟩)
    · refine q _ G H (.refl s) (.tup h1 ?_)
      have e2 : cut as lo hi = as := by
        unfold cut
        rw [r1.length] at e
        rw [e.1, e.2]
        simp
      rw [e2]; exact r1
    · exact (rps_cut r1 lo hi).mono (Fw.new (o := .tup _) s hp).g
theorem ru_rev (hl : a.length ≤ 16777216) : RU B (zRev B.K) (.str (tx a)) (.str (tx a.reverse)) := fun x G H Q s rx q => by
  cases rx
  refine ⟨_, rfl, by rw [tx_length]; exact line_le hl, ?_⟩
  rw [tx_cps]; exact q _ G H (.refl s) (.str _)

/-! built-ins -/
theorem rc_lenT (hl : a.length ≤ 16777216) : RC B (zLen B.K) [.str (tx a)] (.int a.length) := fun xs G H Q s r q => by
  cases r with
  | cons r1 r2 =>
    cases r1; cases r2
    exact ⟨_, _, rfl, ⟨by rw [tx_length]; exact line_le hl, rfl⟩, by rw [tx_length]; exact q _ G H (.refl s) (.int _)⟩
theorem rc_lenL : RC B (zLen B.K) [.lst as] (.int as.length) := fun xs G H Q s r q => by
  cases r with
  | cons r1 r2 =>
    cases r2
    cases r1 with
    | lst h1 r1 => exact ⟨_, _, rfl, .inl ⟨_, same_l s h1, rfl⟩, by rw [r1.length]; exact q _ G H (.refl s) (.int _)⟩
theorem rc_lenU : RC B (zLen B.K) [.tup as] (.int as.length) := fun xs G H Q s r q => by
  cases r with
  | cons r1 r2 =>
    cases r2
    cases r1 with
    | tup h1 r1 => exact ⟨_, _, rfl, .inr ⟨_, same_t s h1, rfl⟩, by rw [r1.length]; exact q _ G H (.refl s) (.int _)⟩
theorem rc_int : RC B zInt [.int i] (.int i) := fun xs G H Q s r q => by
  cases r with
  | cons r1 r2 => cases r1; cases r2; exact .inl ⟨i, rfl, q _ G H (.refl s) (.int _)⟩
theorem rc_intB : RC B zInt [.bl p] (.int (if p then 1 else 0)) := fun xs G H Q s r q => by
  cases r with
  | cons r1 r2 => cases r1; cases r2; exact .inr ⟨p, rfl, q _ G H (.refl s) (.int _)⟩
theorem rc_min : RC B zMin2 [.int i, .int j] (.int (if j < i then j else i)) := fun xs G H Q s r q => by
  cases r with
  | cons r1 r2 => cases r1; cases r2 with | cons r3 r4 => cases r3; cases r4; exact ⟨i, j, rfl, q _ G H (.refl s) (.int _)⟩
theorem rc_max : RC B zMax2 [.int i, .int j] (.int (if j > i then j else i)) := fun xs G H Q s r q => by
  cases r with
  | cons r1 r2 => cases r1; cases r2 with | cons r3 r4 => cases r3; cases r4; exact ⟨i, j, rfl, q _ G H (.refl s) (.int _)⟩
end
end Z

/-! Z5: statements, loops, comprehensions. -/
namespace Z
open PySem PySem.Spec PyProof.Rows L2

structure Po where
  nx : List Sl → Prop
  rt : Sl → Prop
  bk : List Sl → Prop := fun _ => False
  ct : List Sl → Prop := fun _ => False
  xc : Xc → List Sl → Prop := fun _ _ => False
structure EndsOk (B : Bx) (W : WX) (P : Po) (G : Hp) (D : Ends) : Prop where
  nx : ∀ Γ σ G' H', P.nx Γ → Same G G' → Stt B Γ σ G' H' → D.nx σ H'
  bk : ∀ Γ σ G' H', P.bk Γ → Same G G' → Stt B Γ σ G' H' → D.bk σ H'
  ct : ∀ Γ σ G' H', P.ct Γ → Same G G' → Stt B Γ σ G' H' → D.ct σ H'
  rt : ∀ s v G' H', P.rt s → Fw B.G0 B.H0 G' H' → RsOk B.K B.H0 G' H' s v → D.rt v H'
  xc : ∀ x Γ cls dd σ G' H', P.xc x Γ → Same G G' → Stt B Γ σ G' H' → XOk B.K G' x cls dd → W cls dd σ H'
def Sv (B : Bx) (W : WX) (ts : TS) (Γ : List Sl) (P : Po) : Prop := ∀ D σ G H, EndsOk B W P G D → Stt B Γ σ G H → ts D σ H

inductive SetAt : List Sl → Nat → Sl → List Sl → Prop
  | zero {x : Sl} {l : List Sl} {s : Sl} : SetAt (x :: l) 0 s (s :: l)
  | succ {x : Sl} {l l' : List Sl} {i : Nat} {s : Sl} : SetAt l i s l' → SetAt (x :: l) (i + 1) s (x :: l')
theorem SetAt.eq : ∀ {l l' : List Sl} {i : Nat} {s : Sl}, SetAt l i s l' → i < l.length ∧ l' = l.set i s
  | _, _, _, _, .zero => ⟨by simp, rfl⟩
  | _, _, _, _, .succ h => ⟨by have := h.eq.1; simp; omega, by rw [h.eq.2]; rfl⟩
theorem SetAt.of {l : List Sl} {i : Nat} {s : Sl} (h : i < l.length) : SetAt l i s (l.set i s) := by
  induction l generalizing i with
  | nil => simp at h
  | cons x l ih =>
    cases i with
    | zero => exact .zero
    | succ i => exact .succ (ih (by simpa using h))

section
variable {B : Bx} {W : WX} {Γ Γ' Γ1 Γ2 : List Sl} {P : Po} {t u : TS} {te ta : TE} {tt : TT} {aa : TA} {d e : D} {as ds : List D} {i j : Nat}

theorem EndsOk.mono {G G' : Hp} {D : Ends} (E : EndsOk B W P G D) (s : Same G G') : EndsOk B W P G' D :=
  ⟨fun Γ σ G1 H1 h s1 => E.nx Γ σ G1 H1 h (s.trans s1), fun Γ σ G1 H1 h s1 => E.bk Γ σ G1 H1 h (s.trans s1), fun Γ σ G1 H1 h s1 => E.ct Γ σ G1 H1 h (s.trans s1), E.rt,
    fun x Γ c d σ G1 H1 h s1 => E.xc x Γ c d σ G1 H1 h (s.trans s1)⟩
theorem Stt.rs {σ : L2.St} {G H G' H' : Hp} {s : Sl} {v : V} (S : Stt B Γ σ G H) (f : Fw G H G' H') (r : RsOk B.K H G' H' s v) : RsOk B.K B.H0 G' H' s v := by
  cases s with
  | un => trivial
  | dat d => exact r
  | own w =>
    obtain ⟨a, u, e, g, n, h, o⟩ := r
    exact ⟨a, u, e, g, S.fw.h.free n, h, o⟩
theorem sv_post {P' : Po} (h : Sv B W t Γ P) (h1 : ∀ Γ, P.nx Γ → P'.nx Γ) (h2 : ∀ s, P.rt s → P'.rt s) (h3 : ∀ Γ, P.bk Γ → P'.bk Γ) (h4 : ∀ Γ, P.ct Γ → P'.ct Γ) (h5 : ∀ x Γ, P.xc x Γ → P'.xc x Γ) : Sv B W t Γ P' := fun D σ G H E S =>
  h D σ G H ⟨fun Γ σ G' H' q => E.nx Γ σ G' H' (h1 Γ q), fun Γ σ G' H' q => E.bk Γ σ G' H' (h3 Γ q), fun Γ σ G' H' q => E.ct Γ σ G' H' (h4 Γ q), fun s v G' H' q => E.rt s v G' H' (h2 s q), fun x Γ c dd σ G' H' q => E.xc x Γ c dd σ G' H' (h5 x Γ q)⟩ S
theorem sv_seq (h : Sv B W t Γ { P with nx := fun Γ' => Sv B W u Γ' P }) : Sv B W (tSeq t u) Γ P := fun D σ G H E S =>
  h { D with nx := u D } σ G H ⟨fun Γ1 σ1 G1 H1 q s S1 => q D σ1 G1 H1 (E.mono s) S1, E.bk, E.ct, E.rt, E.xc⟩ S
theorem sv_next (h : P.nx Γ) : Sv B W tNext Γ P := fun D σ G H E S => E.nx Γ σ G H h (Same.refl _) S
theorem sv_brk (h : P.bk Γ) : Sv B W tBreak Γ P := fun D σ G H E S => E.bk Γ σ G H h (Same.refl _) S
theorem sv_cont (h : P.ct Γ) : Sv B W tCont Γ P := fun D σ G H E S => E.ct Γ σ G H h (Same.refl _) S
theorem sv_set (h : Ev B te Γ d) (hs : SetAt Γ i (.dat d) Γ') (k : P.nx Γ') : Sv B W (tAsg te (gName i)) Γ P := fun D σ G H E S =>
  h σ G H _ S fun v G1 H1 f r => by
    obtain ⟨hi, rfl⟩ := hs.eq
    exact E.nx _ _ G1 H1 k f.g ((S.step f).set hi r)
theorem sv_setO {w : Ow} (h : EvO B te Γ w) (hs : SetAt Γ i (.own w) Γ') (k : P.nx Γ') : Sv B W (tAsg te (gName i)) Γ P := fun D σ G H E S =>
  h σ G H _ S fun a u G1 H1 f g n e o => by
    obtain ⟨hi, rfl⟩ := hs.eq
    exact E.nx _ _ G1 H1 k f.g ((S.step f).setO hi g e o (S.fw.h.free n) fun j o _ hj => S.apart n j o hj)
theorem sv_drop (h : Ev B te Γ d) (k : P.nx Γ) : Sv B W (tDrop te) Γ P := fun D σ G H E S => h σ G H _ S fun v G1 H1 f r => E.nx _ _ G1 H1 k f.g (S.step f)
theorem sv_ret (h : Ev B te Γ d) (k : P.rt (.dat d)) : Sv B W (tRet te) Γ P := fun D σ G H E S => h σ G H _ S fun v G1 H1 f r => E.rt (.dat d) v G1 H1 k (S.fw.trans f) r
theorem sv_retO {w : Ow} (h : EvO B te Γ w) (k : P.rt (.own w)) : Sv B W (tRet te) Γ P := fun D σ G H E S => h σ G H _ S fun a u G1 H1 f g n e o => E.rt (.own w) _ G1 H1 k (S.fw.trans f) ⟨a, u, rfl, g, S.fw.h.free n, e, o⟩
/-- a name of one's own object is handed back -/
theorem sv_retOv {w : Ow} (hi : Γ[i]? = some (.own w)) (k : P.rt (.own w)) : Sv B W (tRet (tVar i)) Γ P := fun D σ G H E S => by
  obtain ⟨a, u, e, g, h, o, h0⟩ := S.own hi
  exact ⟨.ref a, e, E.rt (.own w) _ G H k S.fw ⟨a, u, rfl, g, h0, h, o⟩⟩
theorem sv_retN (k : P.rt (.dat .non)) : Sv B W tRetN Γ P := fun D σ G H E S => E.rt (.dat .non) _ G H k S.fw .non
theorem sv_if {p : Bool} (h : EvT B tt Γ p) (h1 : p = true → Sv B W t Γ P) (h2 : p = false → Sv B W u Γ P) : Sv B W (tIfS tt t u) Γ P := fun D σ G H E S =>
  h σ G H _ S fun G1 H1 f => by
    cases p with
    | true => exact h1 rfl D σ G1 H1 (E.mono f.g) (S.step f)
    | false => exact h2 rfl D σ G1 H1 (E.mono f.g) (S.step f)
/-- one's own list is given up -/
theorem sv_freeze (i : Nat) (hi : Γ[i]? = some (.own (.lst ds))) (hs : SetAt Γ i (.dat (.lst ds)) Γ') (h : Sv B W t Γ' P) : Sv B W t Γ P := fun D σ G H E S => by
  obtain ⟨G1, s1, S1⟩ := S.freeze hi
  obtain ⟨_, rfl⟩ := hs.eq
  exact h D σ G1 H (E.mono s1) S1
/-- row.append(e) -/
theorem sv_app (hi : Γ[i]? = some (.own (.lst ds))) (h : Ev B te Γ d) (hl : ds.length < 16777216) (hs : SetAt Γ i (.own (.lst (ds ++ [d]))) Γ') (k : P.nx Γ') : Sv B W (tDrop (tBM B.K "list" rAppend (tVar i) (tCons te tNil))) Γ P := fun D σ G H E S => by
  obtain ⟨a, u, e, g, hh, ⟨xs, hu, r⟩, h0⟩ := S.own hi
  subst hu
  refine ⟨.ref a, e, .inl ⟨rfl, xs, .inl (.inl hh)⟩, ?_⟩
  refine h σ G H _ S fun v G1 H1 f rv => ?_
  refine ⟨a, xs, v, rfl, rfl, f.h _ _ hh, by rw [r.length]; exact line_lt hl, ?_⟩
  obtain ⟨_, rfl⟩ := hs.eq
  exact E.nx _ _ G1 _ k f.g ((S.step f).mut hi e ⟨_, rfl, (r.mono f.g).append (.cons rv .nil)⟩)
/-- a test or value that raises -/
def EvX (B : Bx) (W : WX) (te : TE) (Γ : List Sl) (x : Xc) : Prop := ∀ σ G H Q, Stt B Γ σ G H → (∀ cls dd G' H', Fw G H G' H' → XOk B.K G' x cls dd → W cls dd σ H') → te σ H Q
theorem evx_call {F : Fn} {x : Xc} (ha : EvA B aa Γ as) (hF : F as (fun _ => False) (fun y => y = x)) : EvX B W (tCallS (spz B.K F) (WE W) aa) Γ x := fun σ G H Q S q =>
  ha σ G H _ S fun vs G1 H1 f1 r1 => ⟨G1, as, _, _, f1.e, r1, hF, fun _ _ _ _ z => z.elim, fun y cls dd G' H' hy f' xo => by
    subst hy; exact q cls dd G' H' (f1.trans f') xo⟩
theorem svx_drop {x : Xc} (h : EvX B W te Γ x) (k : P.xc x Γ) : Sv B W (tDrop te) Γ P := fun D σ G H E S => h σ G H _ S fun cls dd G1 H1 f o => E.xc x Γ cls dd σ G1 H1 k f.g (S.step f) o
theorem svx_ret {x : Xc} (h : EvX B W te Γ x) (k : P.xc x Γ) : Sv B W (tRet te) Γ P := fun D σ G H E S => h σ G H _ S fun cls dd G1 H1 f o => E.xc x Γ cls dd σ G1 H1 k f.g (S.step f) o
theorem svx_set {x : Xc} {g : TG} (h : EvX B W te Γ x) (k : P.xc x Γ) : Sv B W (tAsg te g) Γ P := fun D σ G H E S => h σ G H _ S fun cls dd G1 H1 f o => E.xc x Γ cls dd σ G1 H1 k f.g (S.step f) o

/-! ### targets -/
def EvG (B : Bx) (g : TG) (Γ : List Sl) (d : D) (Γ' : List Sl) : Prop := ∀ σ G H v Q, Stt B Γ σ G H → Rp B.K G v d → (∀ σ', Stt B Γ' σ' G H → Q σ' H) → g v σ H Q
def EvGs (B : Bx) (g : TGs) (Γ : List Sl) (ds : List D) (Γ' : List Sl) : Prop := ∀ σ G H vs Q, Stt B Γ σ G H → Rps B.K G vs ds → (∀ σ', Stt B Γ' σ' G H → Q σ' H) → g vs σ H Q
theorem evg_name (hs : SetAt Γ i (.dat d) Γ') : EvG B (gName i) Γ d Γ' := fun σ G H v Q S r q => by
  obtain ⟨hi, rfl⟩ := hs.eq
  exact q _ (S.set hi r)
theorem evgs_nil : EvGs B gNil Γ [] Γ := fun σ G H v Q S r q => by
  cases r
  exact ⟨rfl, q σ S⟩
theorem evgs_cons {g : TG} {gs : TGs} (h : EvG B g Γ d Γ1) (hr : EvGs B gs Γ1 ds Γ2) : EvGs B (gCons g gs) Γ (d :: ds) Γ2 := fun σ G H vs Q S r q => by
  cases r with
  | cons r1 r2 => exact ⟨_, _, rfl, h σ G H _ _ S r1 fun σ1 S1 => hr σ1 G H _ _ S1 r2 q⟩
theorem evg_tup {gs : TGs} {n : Nat} (h : EvGs B gs Γ ds Γ') (hn : ds.length = n) : EvG B (gTup B.K n gs) Γ (.tup ds) Γ' := fun σ G H v Q S r q => by
  cases r with
  | tup h1 r1 => exact ⟨_, _, rfl, same_t S.same h1, by rw [r1.length, hn], h σ G H _ _ S r1 q⟩
theorem sv_asg {g : TG} (h : Ev B te Γ d) (hg : EvG B g Γ d Γ') (k : P.nx Γ') : Sv B W (tAsg te g) Γ P := fun D σ G H E S =>
  h σ G H _ S fun v G1 H1 f r => hg σ G1 H1 v _ (S.step f) r fun σ' S' => E.nx _ _ G1 H1 k f.g S'

/-! ### walks -/
def Wk (K : PySem.W.Frag) (G1 : Hp) (J : It) (es : List D) : Prop := ∃ (Gd : Hp → Prop) (Y : Nat → Hp → V → Hp → Prop), Walk J es.length Gd Y ∧ (∀ G H, Same G1 G → Same G H → Gd H) ∧
  (∀ i H x H' G, i < es.length → Same G1 G → Same G H → Y i H x H' → ∃ d G', es[i]? = some d ∧ Fw G H G' H' ∧ Rp K G' x d)
def EvI (B : Bx) (wi : TI) (Γ : List Sl) (es : List D) : Prop := ∀ σ G H R, Stt B Γ σ G H → (∀ J G1 H1, Fw G H G1 H1 → Wk B.K G1 J es → R J H1) → wi σ H R
theorem wk_at {K : PySem.W.Frag} {G1 : Hp} {J : It} {xs : List V} {Gd : Hp → Prop} (w : Walk J xs.length Gd (YAt xs)) (hG : ∀ G H, Same G1 G → Same G H → Gd H) (r : Rps K G1 xs ds) : Wk K G1 J ds := by
  have hl := r.length
  refine ⟨Gd, YAt xs, by rw [← hl]; exact w, hG, fun i H x H' G hi s1 s2 y => ?_⟩
  obtain ⟨rfl, hx⟩ := y
  obtain ⟨d, h1, h2⟩ := r.get' hx
  exact ⟨d, G, h1, .refl s2, h2.mono s1⟩
theorem evi_list (h : Ev B te Γ (.lst ds)) : EvI B (iList B.K te) Γ ds := fun σ G H R S q =>
  h σ G H _ S fun v G1 H1 f r => by
    cases r with
    | lst h1 r1 => exact ⟨_, rfl, ⟨_, same_l f.e h1⟩, q _ G1 H1 f (wk_at walk_list (fun G H s1 s2 => same_l (s1.trans s2) h1) r1)⟩
theorem evi_tup (h : Ev B te Γ (.tup ds)) : EvI B (iTup B.K te) Γ ds := fun σ G H R S q =>
  h σ G H _ S fun v G1 H1 f r => by
    cases r with
    | tup h1 r1 => exact ⟨_, rfl, ⟨_, same_t f.e h1⟩, q _ G1 H1 f (wk_at walk_tup (fun G H s1 s2 => same_t (s1.trans s2) h1) r1)⟩
theorem evi_str {a : List Nat} (h : Ev B te Γ (.str (tx a))) : EvI B (iStr te) Γ (a.map fun c => .str (tx [c])) := fun σ G H R S q =>
  h σ G H _ S fun v G1 H1 f r => by
    cases r
    have hz : (tx a).cps.size = a.length := by simp [tx]
    refine ⟨_, rfl, q _ G1 H1 f ⟨_, _, by rw [List.length_map, ← hz]; exact walk_str, fun _ _ _ _ => trivial, fun i H x H' G hi s1 s2 y => ?_⟩⟩
    obtain ⟨rfl, c, hc, rfl⟩ := y
    have hc' : a[i]? = some c := by simpa [tx] using hc
    exact ⟨.str (tx [c]), G, by rw [List.getElem?_map, hc']; rfl, .refl s2, .str _⟩
theorem evi_rng1 {n : Int} (h : EvA B aa Γ [.int n]) (hn : -(2 ^ 62) ≤ n ∧ n < 2 ^ 62) : EvI B (iRng1 aa) Γ ((List.range n.toNat).map fun k => .int (k : Nat)) := fun σ G H R S q =>
  h σ G H _ S fun vs G1 H1 f r => by
    cases r with
    | cons r1 r2 =>
      cases r1; cases r2
      refine ⟨n, rfl, hn.1, hn.2, q _ G1 H1 f ⟨_, _, by rw [List.length_map, List.length_range]; exact walk_range, fun _ _ _ _ => trivial, fun i H x H' G hi s1 s2 y => ?_⟩⟩
      obtain ⟨rfl, rfl⟩ := y
      rw [List.length_map, List.length_range] at hi
      exact ⟨.int (i : Nat), G, by rw [List.getElem?_map, List.getElem?_range hi]; rfl, .refl s2, by show Rp B.K G (V.int (0 + (i : Int))) (D.int (i : Int)); rw [Int.zero_add]; exact .int _⟩
theorem evi_rng2 {m n : Int} (h : EvA B aa Γ [.int m, .int n]) (hm : -(2 ^ 62) ≤ m ∧ m < 2 ^ 62) (hn : -(2 ^ 62) ≤ n ∧ n < 2 ^ 62) : EvI B (iRng2 aa) Γ ((List.range (n - m).toNat).map fun k => .int (m + (k : Nat))) := fun σ G H R S q =>
  h σ G H _ S fun vs G1 H1 f r => by
    cases r with
    | cons r1 r2 =>
      cases r2 with
      | cons r2 r3 =>
      cases r1; cases r2; cases r3
      refine ⟨m, n, rfl, ⟨hm.1, hm.2, hn.1, hn.2⟩, q _ G1 H1 f ⟨_, _, by rw [List.length_map, List.length_range]; exact walk_range, fun _ _ _ _ => trivial, fun i H x H' G hi s1 s2 y => ?_⟩⟩
      obtain ⟨rfl, rfl⟩ := y
      rw [List.length_map, List.length_range] at hi
      exact ⟨.int (m + (i : Nat)), G, by rw [List.getElem?_map, List.getElem?_range hi]; rfl, .refl s2, .int _⟩

/-! ### for -/
theorem sv_for {α : Type} (enc : α → D) (xs : List α) {wi : TI} {g : TG} {tb : TS} (hi : EvI B wi Γ (xs.map enc)) (V : List α → List Sl → Prop) (h0 : V xs Γ) (hd : ∀ Γ', V [] Γ' → P.nx Γ')
    (hs : ∀ x r Γ', (∃ pre, xs = pre ++ x :: r) → V (x :: r) Γ' → ∃ Γ2, EvG B g Γ' (enc x) Γ2 ∧ Sv B W tb Γ2 { P with nx := V r, ct := V r, bk := P.nx }) : Sv B W (tFor wi g tb) Γ P := fun D σ G H E S => by
  refine hi σ G H _ S fun J G1 H1 f w => ?_
  obtain ⟨Gd, Y, w, hG, hy⟩ := w
  rw [List.length_map] at w
  rw [List.length_map] at hy
  refine for_it w (fun i σ' H' => ∃ Γ' G', V (xs.drop i) Γ' ∧ Stt B Γ' σ' G' H' ∧ Same G1 G') ⟨Γ, G1, h0, S.step f, Same.refl _⟩ (fun i σ' H' _ p => ?_) (fun i x σ' H' H2 hlt p y => ?_) (fun σ' H' p => ?_)
  · obtain ⟨Γ', G', _, S', s'⟩ := p
    exact hG G' H' s' S'.same
  · obtain ⟨Γ', G', hv, S', s'⟩ := p
    obtain ⟨d, G2, hd', f2, r2⟩ := hy i H' x H2 G' hlt s' S'.same y
    rw [List.getElem?_map, List.getElem?_eq_getElem hlt] at hd'
    have hd2 : enc xs[i] = d := Option.some.inj hd'
    subst hd2
    have hdrop : xs.drop i = xs[i] :: xs.drop (i + 1) := List.drop_eq_getElem_cons hlt
    rw [hdrop] at hv
    obtain ⟨Γ2, hg, hb⟩ := hs xs[i] (xs.drop (i + 1)) Γ' ⟨xs.take i, by rw [← hdrop]; exact (List.take_append_drop i xs).symm⟩ hv
    refine hg σ' G2 H2 x _ (S'.step f2) r2 fun σ2 S2 => ?_
    have sG : Same G1 G2 := s'.trans f2.g
    refine hb _ σ2 G2 H2 ⟨fun Γ3 σ3 G3 H3 q s3 S3 => ⟨Γ3, G3, q, S3, sG.trans s3⟩, fun Γ3 σ3 G3 H3 q s3 S3 => E.nx Γ3 σ3 G3 H3 q ((f.g.trans sG).trans s3) S3, fun Γ3 σ3 G3 H3 q s3 S3 => ⟨Γ3, G3, q, S3, sG.trans s3⟩, E.rt,
      fun x Γ c dd σ G' H' q s3 => E.xc x Γ c dd σ G' H' q ((f.g.trans sG).trans s3)⟩ S2
  · obtain ⟨Γ', G', hv, S', s'⟩ := p
    rw [List.drop_length] at hv
    exact E.nx Γ' σ' G' H' (hd Γ' hv) (f.g.trans s') S'

/-! ### while -/
theorem sv_while {β : Type} {tc : TT} {tb : TS} (μ : β → Nat) (V : β → List Sl → Prop) (b0 : β) (h0 : V b0 Γ)
    (hs : ∀ b Γ', V b Γ' → ∃ c, EvT B tc Γ' c ∧ (c = false → P.nx Γ') ∧ (c = true → Sv B W tb Γ' { P with nx := fun Γ2 => ∃ b', μ b' < μ b ∧ V b' Γ2, ct := fun Γ2 => ∃ b', μ b' < μ b ∧ V b' Γ2, bk := P.nx })) : Sv B W (tWhile tc tb) Γ P := fun D σ G H E S => by
  refine ⟨fun m σ' H' => ∃ b Γ' G', μ b = m ∧ V b Γ' ∧ Stt B Γ' σ' G' H' ∧ Same G G', ⟨μ b0, b0, Γ, G, rfl, h0, S, Same.refl _⟩, fun m σ' H' p => ?_⟩
  obtain ⟨b, Γ', G', rfl, hv, S', s'⟩ := p
  obtain ⟨c, hc, hf, ht⟩ := hs b Γ' hv
  refine hc σ' G' H' _ S' fun G1 H1 f => ?_
  have sG : Same G G1 := s'.trans f.g
  cases c with
  | false => exact E.nx Γ' σ' G1 H1 (hf rfl) sG (S'.step f)
  | true =>
    refine ⟨fun σ2 H2 => ∃ b' Γ2 G2, μ b' < μ b ∧ V b' Γ2 ∧ Stt B Γ2 σ2 G2 H2 ∧ Same G G2, fun σ2 H2 ⟨b', Γ2, G2, l, v, S2, s2⟩ => ⟨μ b', l, b', Γ2, G2, rfl, v, S2, s2⟩, ?_⟩
    exact ht rfl _ σ' G1 H1 ⟨fun Γ3 σ3 G3 H3 ⟨b', l, v⟩ s3 S3 => ⟨b', Γ3, G3, l, v, S3, sG.trans s3⟩, fun Γ3 σ3 G3 H3 q s3 S3 => E.nx Γ3 σ3 G3 H3 q (sG.trans s3) S3, fun Γ3 σ3 G3 H3 ⟨b', l, v⟩ s3 S3 => ⟨b', Γ3, G3, l, v, S3, sG.trans s3⟩, E.rt,
      fun x Γ c dd σ G' H' q s3 => E.xc x Γ c dd σ G' H' q (sG.trans s3)⟩ (S'.step f)

/-! ### comprehensions -/
def wipeS (Γ : List Sl) : List Nat → List Sl
  | [] => Γ
  | v :: vs => (wipeS Γ vs).set v .un
theorem wipeS_len : ∀ vs : List Nat, (wipeS Γ vs).length = Γ.length
  | [] => rfl
  | v :: vs => by unfold wipeS; rw [List.length_set, wipeS_len vs]
theorem Stt.wipe {σ : L2.St} {G H : Hp} (S : Stt B Γ σ G H) : ∀ (vs : List Nat), (∀ v ∈ vs, v < Γ.length) → Stt B (wipeS Γ vs) (L2.wipe σ vs) G H
  | [], _ => S
  | v :: vs, h => by
    unfold wipeS L2.wipe
    exact (S.wipe vs fun x hx => h x (List.mem_cons_of_mem _ hx)).forget (by rw [wipeS_len]; exact h v List.mem_cons_self)
theorem Stt.other {σ : L2.St} {G H : Hp} {a : Addr} {u : HO} (S : Stt B Γ σ G H) (h0 : B.H0 a = none) (hg : G a = none) (hap : ∀ (j : Nat) o, Γ[j]? = some (.own o) → σ[j]? ≠ some (some (.ref a))) : Stt B Γ σ G (upd H a u) := by
  refine ⟨⟨S.fw.g, fun b o q => ?_, fun b o q => ?_, S.fw.n⟩, S.len, fun j s h => ?_, S.ap, S.nw⟩
  · rw [upd_ne (ne_of_none q h0)]; exact S.fw.h b o q
  · rw [upd_ne (ne_of_none q hg)]; exact S.fw.e b o q
  · have q := S.sl j s h
    cases s with
    | un => trivial
    | dat d => exact q
    | own o =>
      obtain ⟨b, u2, e2, g2, z2, r2⟩ := q
      refine ⟨b, u2, e2, g2, ?_, r2⟩
      rw [upd_ne]
      · exact z2
      · intro eb
        subst eb
        refine hap j o h ?_
        cases q : σ[j]? with
        | none => rw [q] at e2; cases e2
        | some y => rw [q] at e2; exact congrArg some e2
/-- the binding of a comprehension's own names -/
def EvGw (B : Bx) (g : TG) (vs : List Nat) (Γ : List Sl) (d : D) (Γ' : List Sl) : Prop := ∀ σ G H v Q, Stt B Γ (L2.wipe σ vs) G H → Rp B.K G v d → (∀ σ', L2.wipe σ' vs = L2.wipe σ vs → Stt B Γ' σ' G H → Q σ' H) → g v (L2.wipe σ vs) H Q
theorem evgw_name (hs : SetAt Γ i (.dat d) Γ') : EvGw B (gName i) [i] Γ d Γ' := fun σ G H v Q S r q => by
  obtain ⟨hi, rfl⟩ := hs.eq
  refine q _ ?_ (S.set hi r)
  simp [L2.wipe]
theorem evgw_two {i j : Nat} (h : i ≠ j) (hs : SetAt Γ i (.dat d) Γ1) (hs2 : SetAt Γ1 j (.dat e) Γ2) : EvGw B (gTup B.K 2 (gCons (gName i) (gCons (gName j) gNil))) [i, j] Γ (.tup [d, e]) Γ2 := fun σ G H v Q S r q => by
  obtain ⟨hi, rfl⟩ := hs.eq
  obtain ⟨hj, rfl⟩ := hs2.eq
  cases r with
  | tup h1 r1 =>
    cases r1 with
    | cons r1 r2 =>
      cases r2 with
      | cons r2 r3 =>
        cases r3
        refine ⟨_, _, rfl, same_t S.same h1, rfl, _, _, rfl, _, _, rfl, rfl, q _ ?_ ((S.set hi r1).set hj r2)⟩
        simp [L2.wipe]
        rw [List.set_comm _ _ h.symm]
        simp
        rw [List.set_comm _ _ h.symm]
        simp
theorem evo_lc {α : Type} (enc : α → D) (xs : List α) (f : α → Bool) (v : α → D) {wi : TI} {g : TG} {vs : List Nat} (hi : EvI B wi Γ (xs.map enc)) (hv : ∀ n ∈ vs, n < Γ.length) (hl : xs.length < 16777216)
    (hs : ∀ x ∈ xs, ∃ Γx, EvGw B g vs (wipeS Γ vs) (enc x) Γx ∧ EvT B tt Γx (f x) ∧ (f x = true → Ev B te Γx (v x))) : EvO B (tLc wi g tt te vs) Γ (.lst ((xs.filter f).map v)) := fun σ G H Q S q => by
  refine hi σ G H _ S fun J G1 H1 fw w Dl hD => ?_
  obtain ⟨Gd, Y, w, hG, hy⟩ := w
  rw [List.length_map] at w
  rw [List.length_map] at hy
  have S1 := S.step fw
  have h0D : B.H0 Dl = none := S1.fw.h.free hD
  have gD : G1 Dl = none := S1.same.free hD
  have apD := S1.apart hD
  have fresh : H Dl = none := fw.h.free hD
  refine lc_it w (fun i H' => ∃ G' acc, Same G1 G' ∧ Stt B Γ σ G' H' ∧ G' Dl = none ∧ H' Dl = some (.lst acc) ∧ Rps B.K G' acc (((xs.take i).filter f).map v) ∧ Fw G H G' H') ?_ (fun i H' _ p => ?_) (fun i x H' H2 hlt p y => ?_) (fun H' p => ?_)
  · exact ⟨G1, [], Same.refl _, S1.other h0D gD apD, gD, upd_same, .nil, fw.trans (Fw.newO S1.same hD)⟩
  · obtain ⟨G', acc, s', S', _⟩ := p
    exact hG G' H' s' S'.same
  · obtain ⟨G', acc, s', S', g', hacc, r', fa⟩ := p
    obtain ⟨d, G2, hd', f2, r2⟩ := hy i H' x H2 G' hlt s' S'.same y
    rw [List.getElem?_map, List.getElem?_eq_getElem hlt] at hd'
    have hd2 : enc xs[i] = d := Option.some.inj hd'
    subst hd2
    have ht : xs.take (i + 1) = xs.take i ++ [xs[i]] := List.take_succ_eq_append_getElem hlt
    obtain ⟨Γx, hg, htt, hte⟩ := hs xs[i] (List.getElem_mem hlt)
    refine hg σ G2 H2 x _ ((S'.step f2).wipe vs hv) r2 fun σ2 hw S2 => ⟨hw, ?_⟩
    refine htt σ2 G2 H2 _ S2 fun G3 H3 f3 => ?_
    have f23 := f2.trans f3
    cases hb : f xs[i] with
    | false =>
      show ∃ G' acc, _
      refine ⟨G3, acc, s'.trans f23.g, S'.step f23, f23.gone g' hacc, f23.h _ _ hacc, ?_, fa.trans f23⟩
      rw [ht, List.filter_append, List.filter_cons, hb]
      simpa using r'.mono f23.g
    | true =>
      refine hte hb σ2 G3 H3 _ (S2.step f3) fun y G4 H4 f4 r4 => ?_
      have f24 := f23.trans f4
      have hacc4 := f24.h _ _ hacc
      have g4 := f24.gone g' hacc
      refine ⟨acc, hacc4, ?_, G4, acc ++ [y], s'.trans f24.g, (S'.step f24).other h0D g4 apD, g4, upd_same, ?_, ?_⟩
      · have e1 := r'.length
        have e2 : (((xs.take i).filter f).map v).length ≤ xs.length := by
          rw [List.length_map]
          exact Nat.le_trans (List.length_filter_le _ _) (by rw [List.length_take]; omega)
        exact line_lt (by omega)
      · rw [ht, List.filter_append, List.map_append, List.filter_cons, hb]
        exact (r'.mono f24.g).append (.cons r4 .nil)
      · have fb := fa.trans f24
        refine ⟨fb.g, fun b o e => ?_, fun b o e => ?_, fb.n⟩
        · rw [upd_ne (ne_of_none e fresh)]; exact fb.h b o e
        · rw [upd_ne (ne_of_none e g4)]; exact fb.e b o e
  · obtain ⟨G', acc, s', S', g', hacc, r', fa⟩ := p
    rw [List.take_length] at r'
    exact q Dl (.lst acc) G' H' fa g' fresh hacc ⟨acc, rfl, r'⟩
/-- without a test -/
theorem evo_map {α : Type} (enc : α → D) (xs : List α) (v : α → D) {wi : TI} {g : TG} {vs : List Nat} (hi : EvI B wi Γ (xs.map enc)) (hv : ∀ n ∈ vs, n < Γ.length) (hl : xs.length < 16777216)
    (hs : ∀ x ∈ xs, ∃ Γx, EvGw B g vs (wipeS Γ vs) (enc x) Γx ∧ Ev B te Γx (v x)) : EvO B (tLc wi g tYes te vs) Γ (.lst (xs.map v)) := by
  have := evo_lc (tt := tYes) (te := te) enc xs (fun _ => true) v hi hv hl fun x hx => by
    obtain ⟨Γx, h1, h2⟩ := hs x hx
    exact ⟨Γx, h1, evt_yes, fun _ => h2⟩
  rw [List.filter_eq_self.mpr (fun _ _ => rfl)] at this
  exact this
end
end Z

/-! Z6: enumerate of a text or a tuple; exceptions of the program's own. -/
namespace PySem
theorem meets_enumerate_newB1 {v : Value} {o : Obj} {H : Heap → Prop} (B : Begins v o H) :
    Meets (Builtin.«enumerate.__new__» ⟨[.type "enumerate", v], []⟩) (fun _ R s => H s.heap ∧
      R (.ok (.ret (.ref (s.heap.push o).objs.size))) { s with heap := (s.heap.push o).push { cls := .type "enumerate", data := .fields #[.none, .bool false, .ref s.heap.objs.size, rawInt 0, .none, .none] } }) :=
  .of_wp fun prog w A R s h => by
    obtain ⟨hp, g, d, tk, os⟩ := s; obtain ⟨h1, h⟩ := h
    have hsub := sub_enumerate
    have q1 : ∀ {A' : Around} {E : Value → Shared → Prop} {Q : Value → Shared → Prop}, Q (.ref hp.objs.size) ⟨hp.push o, g, d, tk, os⟩ → wpAny (model prog w) A' (pyIter v) Q E ⟨hp, g, d, tk, os⟩ :=
      fun q => B.iter prog w _ _ ⟨hp, g, d, tk, os⟩ _ h1 q
    wp_walk using q1
    refine wpAny_stack_any fun st => wpAny_pure ?_
    split
    · rename_i c _ _ _ _ _
      cases (c == Value.type "enumerate")
      · wp_walk using q1
        exact ⟨_, rfl, h⟩
      · wp_walk using q1
        exact ⟨_, rfl, h⟩
    · wp_walk using q1
      exact ⟨_, rfl, h⟩
theorem enum_begins1 {prog : Program} {w : World} {A : Around} {E : Value → Shared → Prop} {s : Shared} {v : Value} {o : Obj} {H : Heap → Prop} {Q : Value → Shared → Prop} (B : Begins v o H) (h1 : H s.heap)
    (h : ∀ h', IsEnum h' (s.heap.objs.size + 1) s.heap.objs.size 0 .none → h'.get? s.heap.objs.size = some o → h'.objs.size = s.heap.objs.size + 2 →
      (∀ b o, s.heap.get? b = some o → h'.get? b = some o) → Q (.ref (s.heap.objs.size + 1)) { s with heap := h' }) :
    wpAny (model prog w) A (call (.type "enumerate") [v]) Q E s := by
  refine callType_new F.called_enumerate (by decide) (F.typeCall_enumerate_1 _) (F.newCall_enumerate_1 _) (fun obj => F.args_object_init_2 obj _) F.entry_enumerate_new
    (meets_enumerate_newB1 B) ⟨h1, ?_⟩
  have hz : (s.heap.push o).objs.size = s.heap.objs.size + 1 := Heap.size_push ..
  show _ ∧ _
  rw [hz]
  have he : IsEnum ((s.heap.push o).push { cls := .type "enumerate", data := .fields #[.none, .bool false, .ref s.heap.objs.size, rawInt 0, .none, .none] }) (s.heap.objs.size + 1) s.heap.objs.size 0 .none := by
    have := Heap.get?_push_size (s.heap.push o) (o := { cls := .type "enumerate", data := .fields #[.none, .bool false, .ref s.heap.objs.size, rawInt 0, .none, .none] }) rfl
    rw [hz] at this; exact this
  refine ⟨⟨_, he, rfl⟩, h _ he (Heap.get?_push_of_some _ (Heap.get?_push_size _ B.free)) (by rw [Heap.size_push, hz]) fun b o x => Heap.get?_push_of_some _ (Heap.get?_push_of_some _ x)⟩
end PySem
namespace Z
open PySem PySem.Spec PyProof.Rows L2

/-- one turn of an enumerate, by what its inner iterator draws -/
theorem enum_turn {X : Cx} {pins : List (Addr × Obj)} {s : Shared} {σ : L2.St} {H : Hp} {E : Value → Shared → Prop} {e it : Addr} {fp : List Addr} {n i : Nat} {Pr : Nat → Value → Prop} {St : Nat → Heap → Prop} {old : Value} {elts : List Expr} {kk : Nat} {tpos : Pos}
    {Q : V → Hp → Prop} {R : Heap → Prop}
    (I : Inv X pins σ H s) (hf : ∀ b ∈ [e, it], FpOk X pins H b) (D : Draws X.prog X.w X.A.in1 it fp n Pr St) (he : IsEnum s.heap e it ((i : Nat) : Int) old) (hst : St i s.heap) (hlt : i < n) (hne : e ≠ it) (hef : e ∉ fp)
    (hP : ∀ u, Pr i u → ∃ x, RelV x u ∧ Q (.ref s.heap.objs.size) (upd H s.heap.objs.size (.tup [.int (i : Nat), x])))
    (hR : ∀ h', (∃ old, IsEnum h' e it (((i + 1 : Nat)) : Int) old) → St (i + 1) h' → R h') :
    wpAny (model X.prog X.w) X.A (pyNext (.ref e)) (fun r s1 => ∃ u, r = some u ∧
      wpAny (model X.prog X.w) X.A (letOwnedTupleGo (.Tuple elts kk tpos) (.ref e) u) (fun _ s2 => ∃ x H', Inv X pins σ H' s2 ∧ RelV x u ∧ Q x H' ∧ R s2.heap ∧ ∀ b ∈ [e, it], H' b = none) E s1) E s := by
  have hel : e < s.heap.objs.size := Heap.lt_size he
  have hil : it < s.heap.objs.size := by obtain ⟨o, q⟩ := D.live _ _ hst; exact Heap.lt_size q
  refine wpAny_pyNext_enum_itemD D he hst hlt hne hef fun u h' tk hPu ho hit' hT hsz hk => ?_
  obtain ⟨x, ru, q⟩ := hP u hPu
  refine ⟨_, rfl, wpAny_letOwnedTupleGo_enum (s := { s with heap := h', toks := tk + 1 }) ho fun h'' he' sb => ?_⟩
  have hT2 : h''.get? s.heap.objs.size = some { cls := .type "tuple", data := .seq #[.int i tk, u] } := (sb.2 _ (Nat.ne_of_gt hel)).trans hT
  have new : ObjOk X.prog X.w (upd H s.heap.objs.size (.tup [.int (i : Nat), x])) h'' s.heap.objs.size (.tup [.int (i : Nat), x]) :=
    ⟨by show 2 ≤ sizeLine; decide, [.int i tk, u], .cons ⟨_, rfl⟩ (.cons ru .nil), ⟨_, hT2, rfl, _, rfl⟩⟩
  have I1 : Inv X pins σ (upd H s.heap.objs.size (.tup [.int (i : Nat), x])) { s with heap := h'', toks := tk + 1 } :=
    I.turnedNew (ch := [e, it]) (fun b ob hb q => (sb.2 b (fun z => hb (by simp [z]))).trans (hk b ob (fun z => hb (by simp [z])) (fun z => hb (by simp [z])) q)) hf (Nat.le_refl _) new
  refine ⟨.ref s.heap.objs.size, _, I1, rfl, q, hR h'' ⟨u, ?_⟩ (D.frame _ _ _ hit' fun b hb o y => (sb.2 b fun z => hef (z ▸ hb)).trans y), fun b hb => ?_⟩
  · have e1 : ((i + 1 : Nat) : Int) = (i : Int) + 1 := by omega
    rw [e1]; exact he'
  · have hb' : b < s.heap.objs.size := by
      have e' : b = e ∨ b = it := by simpa using hb
      rcases e' with z | z
      · rw [z]; exact hel
      · rw [z]; exact hil
    rw [upd_ne (Nat.ne_of_lt hb')]
    exact (hf b hb).1

/-! ### a text -/
def Ites (z : Str) : It :=
  ⟨fun i _ => i < z.cps.size, fun i H v H' => ∃ T c, v = .ref T ∧ H T = none ∧ H' = upd H T (.tup [.int (i : Nat), .str ⟨#[c]⟩]) ∧ z.cps[i]? = some c, fun i _ => z.cps.size ≤ i⟩
theorem draws_str {prog : Program} {w : World} {A : Around} (hh : A.handled = none) (it : Addr) (x : Str) (t : Tok) :
    Draws prog w A it [it] x.cps.size (fun i v => ∃ c u, x.cps[i]? = some c ∧ v = .str ⟨#[c]⟩ u) (fun i h => h.IsStrIter it (strIterType x) x t i) := by
  unfold strIterType
  cases x.cps.all (· < 128)
  · exact Draws.strWide hh it x t
  · exact Draws.strAscii hh it x t
theorem turn_enumS {P : Program} {w : World} {K : PySem.W.Frag} {elts : List Expr} {kk : Nat} {tpos : Pos} (z : Str) (t : Tok) (e it : Addr) :
    Turn P w K (.Tuple elts kk tpos) (Ites z) [e, it] e (fun i h => (∃ old, IsEnum h e it ((i : Nat) : Int) old) ∧ h.IsStrIter it (strIterType z) z t i ∧ e ≠ it ∧ i ≤ z.cps.size) where
  mem := by simp
  obj := fun i h st b hb => by
    obtain ⟨⟨old, he⟩, ⟨o, ho, hc, hd⟩, _⟩ := st
    have e' : b = e ∨ b = it := by simpa using hb
    rcases e' with z | z
    · rw [z]; exact ⟨_, he, fun v q => nomatch q⟩
    · rw [z]; exact ⟨o, ho, fun v q => by rw [hd] at q; cases q⟩
  keep := fun i h h' st k => let ⟨⟨old, he⟩, ⟨o, ho, r⟩, hne⟩ := st; ⟨⟨old, k e (by simp) _ he⟩, ⟨o, k it (by simp) o ho, r⟩, hne⟩
  item := by
    intro X hP hw hK hc i pins s σ H E I hf st hg
    subst hP hw hK
    obtain ⟨⟨old, he⟩, hit, hne, _⟩ := st
    refine enum_turn (Q := (Ites z).yld i H) (R := fun h => (∃ old, IsEnum h e it (((i + 1 : Nat)) : Int) old) ∧ h.IsStrIter it (strIterType z) z t (i + 1) ∧ e ≠ it ∧ i + 1 ≤ z.cps.size) I hf (draws_str (A := X.A.in1) (I.ok.hd hc) it z t) he hit hg hne (by simp [hne]) (fun u hu => ?_) (fun h' h1 h2 => ⟨h1, h2, hne, hg⟩)
    obtain ⟨c, tk, hcx, rfl⟩ := hu
    exact ⟨.str ⟨#[c]⟩, ⟨_, rfl⟩, _, c, rfl, I.hok.fresh (Nat.le_refl _), rfl, hcx⟩
  done := by
    intro X hP hw hK hc i pins s σ H E I hf st hg
    subst hP hw hK
    obtain ⟨⟨old, he⟩, hit, hne, hi⟩ := st
    obtain ⟨f0, f1, f2, f3, f4, f5⟩ := hf it (by simp)
    have hn : i = z.cps.size := Nat.le_antisymm hi hg
    subst hn
    exact wpAny_pyNext_enum_endD (draws_str (A := X.A.in1) (I.ok.hd hc) it z t) he hit fun h' eb => ⟨rfl, I.turned (t' := s.toks) (fun b o hb q => eb b o hb q) f0 f1 f3 f4 f5⟩
  self := fun A i s Q E st h => let ⟨⟨_, he⟩, _⟩ := st; wpAny_pyIter_enum he h

/-! ### a tuple -/
def Itet (K : PySem.W.Frag) (a : Addr) : It :=
  ⟨fun i H => ∃ (xs : List V) (x : V), SqT K H a xs ∧ xs[i]? = some x, fun i H v H' => ∃ T x, v = .ref T ∧ H T = none ∧ H' = upd H T (.tup [.int (i : Nat), x]) ∧ ∀ xs, SqT K H a xs → xs[i]? = some x, fun i H => ∃ xs : List V, SqT K H a xs ∧ xs.length = i⟩
theorem apart_of {h : Heap} {a b : Addr} {o u : Obj} (h1 : h.get? a = some o) (h2 : h.get? b = some u) (hc : o.cls ≠ u.cls) : a ≠ b := fun z => by
  subst z; rw [h1] at h2; cases h2; exact hc rfl
theorem turn_enumT {P : Program} {w : World} {K : PySem.W.Frag} {elts : List Expr} {kk : Nat} {tpos : Pos} (a e it : Addr) :
    Turn P w K (.Tuple elts kk tpos) (Itet K a) [e, it] e (fun i h => (∃ old, IsEnum h e it ((i : Nat) : Int) old) ∧ h.IsTupleIter it a i ∧ e ≠ it) where
  mem := by simp
  obj := fun i h st b hb => by
    obtain ⟨⟨old, he⟩, ⟨o, ho, hc, hd⟩, _⟩ := st
    have e' : b = e ∨ b = it := by simpa using hb
    rcases e' with z | z
    · rw [z]; exact ⟨_, he, fun v q => nomatch q⟩
    · rw [z]; exact ⟨o, ho, fun v q => by rw [hd] at q; cases q⟩
  keep := fun i h h' st k => let ⟨⟨old, he⟩, hi, hne⟩ := st; ⟨⟨old, k e (by simp) _ he⟩, hi.at fun o q => k it (by simp) o q, hne⟩
  item := by
    intro X hP hw hK hc i pins s σ H E I hf st hg
    subst hP hw hK
    obtain ⟨⟨old, he⟩, hit, hne⟩ := st
    obtain ⟨xs, x, hq, hx⟩ := hg
    obtain ⟨its, rv, p, hz⟩ := I.tuple hq
    obtain ⟨u0, hu0, ru0⟩ := rv.get hx
    obtain ⟨ot, hot, hct, n, hdt⟩ := id p
    obtain ⟨oi, hoi, hci, hdi⟩ := id hit
    have nae : a ≠ e := apart_of hot he (by rw [hct]; show Value.type "tuple" ≠ Value.type "enumerate"; decide)
    have nai : a ≠ it := apart_of hot hoi (by rw [hct, hci]; decide)
    have hlt : i < its.toArray.size := by
      have := (List.getElem?_eq_some_iff.mp hu0).1
      simpa using this
    refine enum_turn (Q := (Itet X.K a).yld i H) (R := fun h => (∃ old, IsEnum h e it (((i + 1 : Nat)) : Int) old) ∧ h.IsTupleIter it a (i + 1) ∧ e ≠ it) I hf (Draws.tuple (A := X.A.in1) (I.ok.hd hc) it a nai its.toArray) he ⟨hit, p⟩ hlt hne (by simp [hne, Ne.symm nae]) (fun u hu => ?_) (fun h' h1 h2 => ⟨h1, h2.1, hne⟩)
    have eu : u0 = u := by
      have hu' : its[i]? = some u := by simpa using hu
      rw [hu0] at hu'
      exact Option.some.inj hu'
    subst eu
    exact ⟨x, ru0, _, x, rfl, I.hok.fresh (Nat.le_refl _), rfl, fun ys hy => by rw [I.tuple_inj hy hq]; exact hx⟩
  done := by
    intro X hP hw hK hc i pins s σ H E I hf st hg
    subst hP hw hK
    obtain ⟨⟨old, he⟩, hit, hne⟩ := st
    obtain ⟨xs, hq, hx⟩ := hg
    obtain ⟨its, rv, p, hz⟩ := I.tuple hq
    obtain ⟨ot, hot, hct, n, hdt⟩ := id p
    obtain ⟨oi, hoi, hci, hdi⟩ := id hit
    have nai : a ≠ it := apart_of hot hoi (by rw [hct, hci]; decide)
    obtain ⟨f0, f1, f2, f3, f4, f5⟩ := hf it (by simp)
    have hn : i = its.toArray.size := by rw [List.size_toArray, ← rv.length]; exact hx.symm
    refine wpAny_pyNext_enum_endD (Draws.tuple (A := X.A.in1) (I.ok.hd hc) it a nai its.toArray) he ⟨by rw [← hn]; exact hit, p⟩ fun h' eb => ⟨rfl, I.turned (t' := s.toks) (fun b o hb q => eb b o hb q) f0 f1 f3 f4 f5⟩
  self := fun A i s Q E st h => let ⟨⟨_, he⟩, _⟩ := st; wpAny_pyIter_enum he h
def iEnumZ (K : PySem.W.Frag) (ta : TA) : TI := fun σ H R => ta σ H fun vs H1 => (∃ a xs, vs = [.ref a] ∧ SqL K H1 a xs ∧ R (Ite K a) H1) ∨ (∃ a xs, vs = [.ref a] ∧ SqT K H1 a xs ∧ R (Itet K a) H1) ∨ ∃ z, vs = [.str z] ∧ R (Ites z) H1
theorem pi_enumZ {X : Cx} {e : Expr} {ta : TA} {p pos tpos : Pos} {elts : List Expr} {kk : Nat} (hg : Gl X "enumerate") (hm : X.mg "enumerate" = none) (ha : PA X [e] ta) (hs : starEach [e] X.env = [(false, eval e X.env)] := by rfl) :
    PI X (.Tuple elts kk tpos) (.Call (.Name "enumerate" p) [e] [] pos) (iEnumZ X.K ta) := by
  refine ⟨fun pins s σ H R I h => ?_⟩
  refine Call_ (ld_blt I hg hm boot_enumerate (PyProof.Rows.callWith_type1 (thn (ha.run pos pins s σ H _ I h) fun us s1 ⟨vs, H1, I1, r1, q1⟩ => ?_) hs rfl))
  have fp : ∀ b ∈ [s1.heap.objs.size + 1, s1.heap.objs.size], FpOk X pins H1 b := fun b hb => by
    have e' : b = s1.heap.objs.size + 1 ∨ b = s1.heap.objs.size := by simpa using hb
    have hle : s1.heap.objs.size ≤ b := by
      rcases e' with z | z
      · rw [z]; exact Nat.le_add_right _ _
      · rw [z]; exact Nat.le_refl _
    exact I1.fpOk hle (I1.hok.fresh hle)
  rcases q1 with ⟨a, xs, ex, hq, q⟩ | ⟨a, xs, ex, hq, q⟩ | ⟨z, ex, q⟩
  · subst ex
    cases r1 with
    | cons r rr =>
      cases rr
      cases r
      obtain ⟨its, rv, p', hz⟩ := I1.list hq
      refine call_enumerate_list p'.isList fun h' he hit hsz hk => wpAny_pyIter_enum he ?_
      have I2 : Inv X pins σ H1 { s1 with heap := h' } := I1.kept (t' := s1.toks) hk
      exact ⟨s1.heap.objs.size + 1, [s1.heap.objs.size + 1, s1.heap.objs.size], _, _, H1, rfl, I2, turn_enum a (s1.heap.objs.size + 1) s1.heap.objs.size, ⟨⟨.none, he⟩, hit, Nat.succ_ne_self _⟩, fp, q⟩
  · subst ex
    cases r1 with
    | cons r rr =>
      cases rr
      cases r
      obtain ⟨its, rv, p', hz⟩ := I1.tuple hq
      refine enum_begins1 (begins_tuple a its.toArray) p' fun h' he hit hsz hk => wpAny_pyIter_enum he ?_
      have I2 : Inv X pins σ H1 { s1 with heap := h' } := I1.kept (t' := s1.toks) hk
      exact ⟨s1.heap.objs.size + 1, [s1.heap.objs.size + 1, s1.heap.objs.size], _, _, H1, rfl, I2, turn_enumT a (s1.heap.objs.size + 1) s1.heap.objs.size, ⟨⟨.none, he⟩, ⟨_, hit, rfl, rfl⟩, Nat.succ_ne_self _⟩, fp, q⟩
  · subst ex
    cases r1 with
    | cons r rr =>
      cases rr
      obtain ⟨t, rfl⟩ := r
      refine enum_begins1 (begins_text z t) trivial fun h' he hit hsz hk => wpAny_pyIter_enum he ?_
      have I2 : Inv X pins σ H1 { s1 with heap := h' } := I1.kept (t' := s1.toks) hk
      exact ⟨s1.heap.objs.size + 1, [s1.heap.objs.size + 1, s1.heap.objs.size], _, _, H1, rfl, I2, turn_enumS z t (s1.heap.objs.size + 1) s1.heap.objs.size, ⟨⟨.none, he⟩, ⟨_, hit, rfl, rfl⟩, Nat.succ_ne_self _, Nat.zero_le _⟩, fp, q⟩

/-! ### the walks -/
theorem zipIdx_get {α : Type} (f : Nat → α → D) (xs : List α) (i : Nat) : ((xs.zipIdx).map fun p => f p.2 p.1)[i]? = (xs[i]?).map (f i) := by
  rw [List.getElem?_map, List.getElem?_zipIdx]
  cases xs[i]? <;> simp
def enumD (ds : List D) : List D := ds.zipIdx.map fun p => .tup [.int (p.2 : Nat), p.1]
theorem enumD_len (ds : List D) : (enumD ds).length = ds.length := by simp [enumD]
theorem enumD_get (ds : List D) (i : Nat) : (enumD ds)[i]? = (ds[i]?).map fun d => .tup [.int (i : Nat), d] := zipIdx_get (fun i d => .tup [.int (i : Nat), d]) ds i
section
variable {B : Bx} {Γ : List Sl} {aa : TA} {ds : List D}
theorem pair_laid {K : PySem.W.Frag} {G H : Hp} {T : Addr} {x : V} {d : D} {i : Nat} (s : Same G H) (n : H T = none) (r : Rp K G x d) : ∃ G', Fw G H G' (upd H T (.tup [.int (i : Nat), x])) ∧ Rp K G' (.ref T) (.tup [.int (i : Nat), d]) :=
  ⟨_, Fw.new s n, .tup (.inl (.inl upd_same)) (.cons (.int _) (.cons (r.mono (Fw.new (o := .tup [.int (i : Nat), x]) s n).g) .nil))⟩
theorem evi_enumL (h : EvA B aa Γ [.lst ds]) : EvI B (iEnumZ B.K aa) Γ (enumD ds) := fun σ G H R S q =>
  h σ G H _ S fun vs G1 H1 f r => by
    cases r with
    | cons r1 r2 =>
      cases r2
      cases r1 with
      | lst h1 r1 =>
        rename_i a xs
        refine .inl ⟨_, _, rfl, same_l f.e h1, q _ G1 H1 f ⟨_, _, by rw [enumD_len, ← r1.length]; exact walk_enum, fun G H s1 s2 => same_l (s1.trans s2) h1, fun i H x H' G hi s1 s2 y => ?_⟩⟩
        obtain ⟨T, u, v, rfl, hT, rfl, hx, hy⟩ := y
        cases hx
        obtain ⟨d, h2, h3⟩ := r1.get' hy
        obtain ⟨G', f', r'⟩ := pair_laid (i := i) s2 hT (h3.mono s1)
        exact ⟨_, G', by rw [enumD_get, h2]; rfl, f', r'⟩
theorem walk_enumT {K : PySem.W.Frag} {a : Addr} {xs : List V} : Walk (Itet K a) xs.length (fun H => SqT K H a xs) (YPair (fun i => some (.int (i : Nat))) (fun i => xs[i]?)) := by
  refine ⟨fun i _ hi q => ⟨xs, xs[i], q, by simp [hi]⟩, fun _ q => ⟨xs, q, rfl⟩, fun i H v H' _ q y => ?_⟩
  obtain ⟨T, x, h1, h2, h3, h4⟩ := y
  exact ⟨T, .int (i : Nat), x, h1, h2, h3, rfl, h4 xs q⟩
theorem evi_enumU (h : EvA B aa Γ [.tup ds]) : EvI B (iEnumZ B.K aa) Γ (enumD ds) := fun σ G H R S q =>
  h σ G H _ S fun vs G1 H1 f r => by
    cases r with
    | cons r1 r2 =>
      cases r2
      cases r1 with
      | tup h1 r1 =>
        refine .inr (.inl ⟨_, _, rfl, same_t f.e h1, q _ G1 H1 f ⟨_, _, by rw [enumD_len, ← r1.length]; exact walk_enumT, fun G H s1 s2 => same_t (s1.trans s2) h1, fun i H x H' G hi s1 s2 y => ?_⟩⟩)
        obtain ⟨T, u, v, rfl, hT, rfl, hx, hy⟩ := y
        cases hx
        obtain ⟨d, h2, h3⟩ := r1.get' hy
        obtain ⟨G', f', r'⟩ := pair_laid (i := i) s2 hT (h3.mono s1)
        exact ⟨_, G', by rw [enumD_get, h2]; rfl, f', r'⟩
theorem walk_enumS {z : Str} : Walk (Ites z) z.cps.size (fun _ => True) (fun i H v H' => ∃ T c, v = .ref T ∧ H T = none ∧ H' = upd H T (.tup [.int (i : Nat), .str ⟨#[c]⟩]) ∧ z.cps[i]? = some c) :=
  ⟨fun _ _ hi _ => hi, fun _ _ => Nat.le_refl _, fun _ _ _ _ _ _ y => y⟩
theorem evi_enumS {a : List Nat} (h : EvA B aa Γ [.str (tx a)]) : EvI B (iEnumZ B.K aa) Γ (a.zipIdx.map fun p => .tup [.int (p.2 : Nat), .str (tx [p.1])]) := fun σ G H R S q =>
  h σ G H _ S fun vs G1 H1 f r => by
    cases r with
    | cons r1 r2 =>
      cases r2
      cases r1
      have hz : (tx a).cps.size = a.length := by simp [tx]
      refine .inr (.inr ⟨_, rfl, q _ G1 H1 f ⟨_, _, by rw [List.length_map, List.length_zipIdx, ← hz]; exact walk_enumS, fun _ _ _ _ => trivial, fun i H x H' G hi s1 s2 y => ?_⟩⟩)
      obtain ⟨T, c, rfl, hT, rfl, hc⟩ := y
      have hc' : a[i]? = some c := by simpa [tx] using hc
      obtain ⟨G', f', r'⟩ := pair_laid (i := i) s2 hT (Rp.str (K := B.K) (G := G) (tx [c]))
      refine ⟨_, G', ?_, f', r'⟩
      rw [zipIdx_get (fun i c => .tup [.int (i : Nat), .str (tx [c])]) a i, hc']
      rfl
end
end Z

/-! Z7: exceptions of the program's own; isinstance. -/
namespace Z
open PySem PySem.Spec PyProof.Rows L2

/-! ### __init__ that keeps its arguments -/
def spX1 (C : Addr) (f : Str) : Sp := fun vs H Q _ => ∃ (a : Addr) (y : V), vs = [.ref a, y] ∧ H a = some (exo a C none) ∧
  ∀ dx, H dx = none → dx ≠ a → Q .non (upd (upd H dx (exd dx [(f, y)])) a (exo a C (some dx)))
def spX2 (C : Addr) (f g : Str) : Sp := fun vs H Q _ => ∃ (a : Addr) (y z : V), vs = [.ref a, y, z] ∧ H a = some (exo a C none) ∧
  ∀ dx, H dx = none → dx ≠ a → Q .non (upd (upd (upd H dx (exd dx [(f, y)])) a (exo a C (some dx))) dx (exd dx [(g, z), (f, y)]))
theorem exo_exd {a C dx : Addr} {d : Option Addr} {fs : List (Str × V)} (H : Hp) (n : dx ≠ a) : upd (upd H dx (exd dx fs)) a (exo a C d) dx = some (exd dx fs) := by
  rw [upd_ne n, upd_same]
section
variable {B : Bx} {W : WX} {Γ Γ' : List Sl} {P : Po} {aa : TA} {te : TE} {d e : D} {C : Addr} {f g : Str}
theorem del_heap {H1 : Hp} {a dx : Addr} {o1 o2 o3 o4 : HO} (h : H1 a = none) (n : dx ≠ a) : upd (del (upd (upd (upd H1 a o1) dx o2) a o3) a) dx o4 = upd H1 dx o4 := by
  funext b
  by_cases e1 : b = dx
  · subst e1; rw [upd_same, upd_same]
  · rw [upd_ne e1, upd_ne e1]
    by_cases e2 : b = a
    · subst e2; rw [del_same, h]
    · rw [del_ne e2, upd_ne e2, upd_ne e1, upd_ne e2]
theorem del_heap2 {H1 : Hp} {a dx : Addr} {o1 o2 o3 o4 o5 : HO} (h : H1 a = none) (n : dx ≠ a) : upd (del (upd (upd (upd (upd H1 a o1) dx o2) a o3) dx o5) a) dx o4 = upd H1 dx o4 := by
  funext b
  by_cases e1 : b = dx
  · subst e1; rw [upd_same, upd_same]
  · rw [upd_ne e1, upd_ne e1]
    by_cases e2 : b = a
    · subst e2; rw [del_same, h]
    · rw [del_ne e2, upd_ne e1, upd_ne e2, upd_ne e1, upd_ne e2]
/-- raise C(e) -/
theorem sv_raise1 (ha : EvA B aa Γ [d]) (k : P.xc ⟨C, [(f, d)]⟩ Γ) : Sv B W (fun _ σ H => tMkO C (spX1 C f) [] aa σ H fun cls dd H' => W cls dd σ H') Γ P := fun D σ G H E S =>
  ha σ G H _ S fun vs G1 H1 fw r => by
    cases r with
    | @cons y _ _ _ r1 r2 =>
      cases r2
      refine ⟨by show 1 ≤ 1000; decide, fun a hn => ⟨a, _, rfl, upd_same, fun dx hdx ne => ⟨rfl, dx, _, upd_same, exo_exd _ ne, ?_, ?_⟩⟩⟩
      · rw [upd_ne ne] at hdx; exact hdx
      · rw [upd_ne ne] at hdx
        rw [del_heap hn ne]
        have f2 := fw.trans (Fw.new (o := .xd [(f, y)]) fw.e hdx)
        exact E.xc ⟨C, [(f, d)]⟩ Γ _ _ σ _ _ k f2.g (S.step f2) ⟨rfl, .inr ⟨dx, _, rfl, upd_same, .cons (r1.mono (Fw.new (o := .xd [(f, y)]) fw.e hdx).g) .nil⟩⟩
theorem sv_raise2 (ha : EvA B aa Γ [d, e]) (k : P.xc ⟨C, [(g, e), (f, d)]⟩ Γ) : Sv B W (fun _ σ H => tMkO C (spX2 C f g) [] aa σ H fun cls dd H' => W cls dd σ H') Γ P := fun D σ G H E S =>
  ha σ G H _ S fun vs G1 H1 fw r => by
    cases r with
    | @cons y _ _ _ r1 r2 =>
      cases r2 with
      | @cons z _ _ _ r2 r3 =>
      cases r3
      refine ⟨by show 2 ≤ 1000; decide, fun a hn => ⟨a, _, _, rfl, upd_same, fun dx hdx ne => ⟨rfl, dx, _, ?_, upd_same, ?_, ?_⟩⟩⟩
      · rw [upd_ne (Ne.symm ne), upd_same]
      · rw [upd_ne ne] at hdx; exact hdx
      · rw [upd_ne ne] at hdx
        rw [del_heap2 hn ne]
        have f1 := Fw.new (o := .xd [(g, z), (f, y)]) fw.e hdx
        have f2 := fw.trans f1
        exact E.xc ⟨C, [(g, e), (f, d)]⟩ Γ _ _ σ _ _ k f2.g (S.step f2) ⟨rfl, .inr ⟨dx, _, rfl, upd_same, .cons (r2.mono f1.g) (.cons (r1.mono f1.g) .nil)⟩⟩

/-! ### try: .. except X as n: .. -/
def W0 : WX := fun _ _ _ _ => False
theorem sv_try_as {c : Value} {i : Nat} {tb : WX → TS} {ts : Addr → Value → Option Addr → TS} (hi : i < Γ.length)
    (hb : ∀ W', Sv B W' (tb W') Γ { P with xc := fun x Γx => (PySem.W.exmOne B.K (.ref x.C) c = some true ∧ Γx.length = Γ.length ∧ (∀ a d, Sv B W0 (ts a (.ref x.C) (some d)) (Γx.set i (.dat (.xc a d x.fs))) { P with nx := fun Γ' => Γ'.length = Γ.length ∧ P.nx (Γ'.set i .un), bk := fun Γ' => Γ'.length = Γ.length ∧ P.bk (Γ'.set i .un), ct := fun Γ' => Γ'.length = Γ.length ∧ P.ct (Γ'.set i .un), xc := fun _ _ => False }) ∧ x.fs ≠ [])
      ∨ (PySem.W.exmOne B.K (.ref x.C) c = some false ∧ P.xc x Γx) }) : Sv B W (fun D σ H => tb (wAs B.K c i ts W D) D σ H) Γ P := fun D σ G H E S => by
  refine hb (wAs B.K c i ts W D) D σ G H ⟨E.nx, E.bk, E.ct, E.rt, fun x Γx cls dd σ' G' H' k s S' xo => ?_⟩ S
  obtain ⟨rfl, xo⟩ := xo
  rcases k with ⟨hx, hl, hs, hne⟩ | ⟨hx, hk⟩
  · refine ⟨true, hx, fun _ a ha => ?_, fun z => Bool.noConfusion z⟩
    rcases xo with ⟨h0, _⟩ | ⟨dxa, vs, rfl, hd, rf⟩
    · exact absurd h0 hne
    · have hil : i < Γx.length := by rw [hl]; exact hi
      refine hs a dxa _ _ G' H' ⟨fun Γ3 σ3 G3 H3 q s3 S3 => ?_, fun Γ3 σ3 G3 H3 q s3 S3 => ?_, fun Γ3 σ3 G3 H3 q s3 S3 => ?_, E.rt, fun _ _ _ _ _ _ _ z => z.elim⟩ (S'.set hil (.xc hd rf))
      · exact E.nx _ _ G3 H3 q.2 (s.trans s3) (S3.forget (by rw [q.1]; exact hi))
      · exact E.bk _ _ G3 H3 q.2 (s.trans s3) (S3.forget (by rw [q.1]; exact hi))
      · exact E.ct _ _ G3 H3 q.2 (s.trans s3) (S3.forget (by rw [q.1]; exact hi))
  · exact ⟨false, hx, (fun z => Bool.noConfusion z), fun _ => E.xc x Γx _ dd σ' G' H' hk s S' ⟨rfl, xo⟩⟩
/-- try: .. except X: .. -/
theorem sv_try_only {c : Value} {tb : WX → TS} {ts : Addr → Value → Option Addr → TS}
    (hb : ∀ W', Sv B W' (tb W') Γ { P with xc := fun x Γx => (PySem.W.exmOne B.K (.ref x.C) c = some true ∧ (∀ a dd, Sv B W0 (ts a (.ref x.C) dd) Γx { P with xc := fun _ _ => False }))
      ∨ (PySem.W.exmOne B.K (.ref x.C) c = some false ∧ P.xc x Γx) }) : Sv B W (fun D σ H => tb (wOnly B.K c ts W D) D σ H) Γ P := fun D σ G H E S => by
  refine hb (wOnly B.K c ts W D) D σ G H ⟨E.nx, E.bk, E.ct, E.rt, fun x Γx cls dd σ' G' H' k s S' xo => ?_⟩ S
  obtain ⟨rfl, xo⟩ := xo
  rcases k with ⟨hx, hs⟩ | ⟨hx, hk⟩
  · refine ⟨true, hx, fun _ a ha => ?_, fun z => Bool.noConfusion z⟩
    exact hs a dd D σ' G' H' ⟨fun Γ3 σ3 G3 H3 q s3 => E.nx _ _ G3 H3 q (s.trans s3), fun Γ3 σ3 G3 H3 q s3 => E.bk _ _ G3 H3 q (s.trans s3), fun Γ3 σ3 G3 H3 q s3 => E.ct _ _ G3 H3 q (s.trans s3), E.rt, fun _ _ _ _ _ _ _ z => z.elim⟩ S'
  · exact ⟨false, hx, (fun z => Bool.noConfusion z), fun _ => E.xc x Γx _ dd σ' G' H' hk s S' ⟨rfl, xo⟩⟩
/-- e.f of a caught one -/
theorem ev_xf {a dd : Addr} {fs : List (Str × D)} (h : Ev B te Γ (.xc a dd fs)) (hl : fs.lookup f = some d) : Ev B (tXf a (.ref C) (some dd) C f te) Γ d := fun σ G H Q S q =>
  h σ G H _ S fun v G1 H1 f1 r => by
    cases r with
    | xc h1 r1 =>
      obtain ⟨v, e, r⟩ := r1.lookup hl
      exact ⟨rfl, rfl, dd, _, v, rfl, f1.e _ _ h1, e, q v G1 H1 f1 r⟩
end

/-! ### isinstance -/
section
variable {prog : Program} {w : World} {A : Around} {E : Value → Shared → Prop} {s : Shared} {K : PySem.W.Frag} {x D : Addr} {ox : Obj} {od : Option Obj}
open PySem.W in
/-- the class of a caught exception with a dict of its own -/
theorem xc_class {Q : Option Value → Shared → Prop} (C : ExcC K D) (X : K.In s.heap) (I : InstAt s.heap x ox D od) (h : Q (some (.ref D)) { s with toks := s.toks + 1 }) : wpAny (model prog w) A (getAttr? (.ref x) "__class__") Q E s := by
  have hf : findObj K D od "__class__" = some (.bind (.builtin "getset_descriptor.__get__") (.builtin "object.__class__")) := by
    obtain ⟨cd, hcl, _⟩ := any_some C.hd
    unfold findObj
    rw [hcl, Option.bind_some, C.ha, Option.bind_some]
    simp [C.hn, C.ht]
  obtain ⟨hp, g, d, t, os⟩ := s
  have L0 := I.type (M := model prog w)
  have L1 := looks_findIn (M := model prog w) X C.hg
  have L2 := looks_findIn (M := model prog w) X C.hk
  have L3 := looks_find (M := model prog w) X I hf
  have sub : Looks (model prog w) hp (isInstance (.ref x) (.type "BaseException")) true := L0.andThen (looks_subIn X C.hs)
  have hx0 : (false && onTheHeap (Value.builtin "BaseException.__getattribute__")) = false := rfl
  have hx2 : (Value.builtin "BaseException.__getattribute__" == Value.builtin "object.__getattribute__") = false := by decide +kernel
  have hx1 : (onTheHeap (Value.ref D) && Value.builtin "BaseException.__getattribute__" == Value.builtin "object.__getattribute__") = false := by rw [hx2]; rfl
  unfold getAttr? getAttrBy? getAttrBy
  refine wpAny_bind (wpAny_mkText (wpAny_bind (wpAny_attempt (wpAny_holding (wpAny_bind (L0.at (wpAny_bind (L1.at ?_))))))))
  show wpAny _ _ (if (onTheHeap (Value.ref D) && Value.builtin "BaseException.__getattribute__" == Value.builtin "object.__getattribute__") = true then _ else _) _ _ _
  rw [hx1, if_neg Bool.false_ne_true]
  unfold getAttrByItsOwn hookBefore
  refine wpAny_bind ?_
  rw [if_pos (show onTheHeap (Value.ref D) = true from rfl)]
  refine L2.at ?_
  refine wpAny_bind (wpAny_attempt (wpAny_holding ?_))
  unfold callGetattribute
  rw [hx0, if_neg Bool.false_ne_true]
  unfold boundAndCalled
  rw [PySem.F.excAttr_ValueError.ga.bind (.ref x)]
  refine wpAny_bind (wpAny_pure ?_)
  show wpAny _ _ (call (.builtin "BaseException.__getattribute__") [.ref x, .str "__class__" t]) _ _ _
  refine wpAny_call (codeAny_call_builtin PySem.F.excAttr_ValueError.ga.plain PySem.F.entry_bexc_ga ?_)
  refine @check_slot (model prog w) _ _ ⟨hp, g, d, t + 1, os⟩ "BaseException.__getattribute__" "BaseException" "__getattribute__" (.ref x) [.str "__class__" t] [] _ (by decide +kernel) (by decide +kernel) sub (PySem.F.args_bexc_ga (.ref x) (.str "__class__" t)) ?_
  unfold Builtin.«object.__getattribute__»
  refine wpAny_bind (wpAny_of_eq (a := ((Value.ref x : Value), [Value.str "__class__" t])) (by first | rfl | (simp only [slotArgs]; rfl)) ?_)
  refine wpAny_bind (wpAny_pure (wpAny_bind (L0.at (wpAny_bind (L3.at ?_)))))
  show wpAny _ _ (holding [Value.builtin "object.__class__"] (call (.builtin "getset_descriptor.__get__") [.builtin "object.__class__", .ref x, .ref D]) >>= ret) _ _ _
  refine wpAny_bind (wpAny_holding (wpAny_call (class_get (s := ⟨hp, g, d, t + 1, os⟩) (ox := ox) (od := od) X I C.hm ?_)))
  refine wpAny_pure ?_
  show wpAny _ _ (handedOut (.ref D)) _ _ _
  rw [handedOut_of (v := .ref D) rfl]
  first
    | exact wpAny_pure (wpAny_pure h)
    | exact wpAny_pure h
    | exact wpAny_pure (wpAny_bind (wpAny_pure (wpAny_pure h)))
open PySem.W in
theorem xc_kit (C : ExcC K D) : KitX K (.ref x) (.ref D) (fun h => ∃ ox od, InstAt h x ox D od) where
  ty := fun _ _ _ ⟨_, _, I⟩ => I.type
  it := fun _ _ X _ => by
    obtain ⟨cdD, hcD, _⟩ := any_some C.hd
    unfold clsIn at hcD
    split at hcD
    · rename_i c' d' cd' sl' ho
      intro A' Q' E' s' k q
      unfold isType loadHead
      exact wpAny_bind (wpAny_loadPart (k _ _ (X _ _ ho)) (wpAny_pure q))
    · cases hcD
  ne := fun h tp dd its n sl X htp => by
    obtain ⟨cdD, hcD, _⟩ := any_some C.hd
    refine Bool.eq_false_iff.mpr fun q => ?_
    have e : D = tp := Value.ref.inj (beq_iff_eq.mp q)
    subst e
    unfold clsIn at hcD
    split at hcD
    · rename_i c' d' cd' sl' ho
      have z := (X _ _ ho).symm.trans htp
      cases z
    · cases hcD
  ca := fun X ⟨_, _, I⟩ k => xc_class C X I k
end
/-- isinstance(e, c), e the exception that the suite holds, its dict at dd -/
def rIsX (K : PySem.W.Frag) (D a dd : Addr) : List V → Hp → VK → Prop := fun xs H Q => ∃ (c : V) (cv : Value) (b : Bool) (fs : List (Str × V)), xs = [.ref a, c] ∧ ClsV c cv ∧ H dd = some (.xd fs) ∧ PySem.W.kitOne K (.ref D) cv = some b ∧ Q (.bl b) H
theorem call_isX {X : Cx} {a D dd : Addr} {oe : Obj} {pn : List (Addr × Obj)} (C : ExcC X.K D) (hz : Zc (.ref D) (some dd) oe) (hf : ∃ vs, oe.data = .fields vs) : CallR (X.suite a ((a, oe) :: pn)) (.builtin "isinstance") (rIsX X.K D a dd) := by
  intro pins s σ H xs us Q I r h
  obtain ⟨c, cv, b, fs, rfl, hcv, hd, e, q⟩ := h
  cases r with
  | cons rx rr =>
    cases rr with
    | cons rt rr =>
      cases rr
      cases rx
      have ec := hcv.eq rt
      subst ec
      obtain ⟨hget, _⟩ := I.pin (a, oe) (List.mem_append.mpr (.inl List.mem_cons_self))
      obtain ⟨vs, hv⟩ := hf
      have hxd : ObjOk X.prog X.w H s.heap dd (.xd fs) := I.hok dd _ hd
      obtain ⟨mA, ⟨od, es, ep, hod, _⟩, _⟩ := hxd
      have J : PySem.W.InstAt s.heap a oe D (some od) := by
        obtain ⟨oc, od2, oda, osl⟩ := oe
        obtain ⟨h1, h2⟩ := hz
        dsimp only at h1 h2 hv
        subst h1 h2 hv
        exact ⟨hget, rfl, rfl, hod⟩
      exact PySem.W.kia_one (xc_kit C) I.kIn ⟨_, _, J⟩ e (fun z => (nomatch z)) fun tk => ⟨.bl b, H, I.kept (t' := tk) fun _ _ z => z, rfl, q⟩
section
variable {B : Bx} {Γ : List Sl} {aa : TA} {te : TE} {d e : D} {C : Addr} {p : Bool} {t : Value}
theorem ev_isX {a dd D : Addr} {fs : List (Str × Z.D)} {c : V} {cv : Value} {dc : Z.D} (ha : EvA B aa Γ [.xc a dd fs, dc]) (hc : ∀ G v, Rp B.K G v dc → v = c) (hcv : ClsV c cv) (hk : PySem.W.kitOne B.K (.ref D) cv = some p) : Ev B (tCB (rIsX B.K D a dd) aa) Γ (.bl p) := fun σ G H Q S q =>
  ha σ G H _ S fun vs G1 H1 f r => by
    cases r with
    | cons r1 r2 =>
      cases r2 with
      | cons r2 r3 =>
        cases r3
        have e := hc _ _ r2
        subst e
        cases r1 with
        | xc h1 _ => exact ⟨_, cv, p, _, rfl, hcv, f.e _ _ h1, hk, q _ G1 H1 f (.bl p)⟩
def D.tyv : D → Option Value
  | .non => some (.type "NoneType")
  | .bl _ => some (.type "bool")
  | .int _ => some (.type "int")
  | .str _ => some (.type "str")
  | .lst _ => some (.type "list")
  | .tup _ => some (.type "tuple")
  | _ => none
theorem Rp.tyx {K : PySem.W.Frag} {G H : Hp} {v : V} {d : D} {t : Value} (r : Rp K G v d) (s : Same G H) (e : d.tyv = some t) : TyX K H v t := by
  cases r with
  | non => cases e; exact .base .non
  | bl => cases e; exact .base (.bl _)
  | int => cases e; exact .base (.int _)
  | str => cases e; exact .base (.str _)
  | ty => cases e
  | ref => cases e
  | obj => cases e
  | xc => cases e
  | lst h1 _ =>
    cases e
    rcases h1 with (h | ⟨o, h⟩) | ⟨o, its, n, hk, hc, _⟩
    · exact .base (.lst (s _ _ h))
    · exact .base (.frz (s _ _ h))
    · exact .kList hk hc
  | tup h1 _ =>
    cases e
    rcases h1 with (h | ⟨o, h⟩) | ⟨o, its, n, hk, hc, _⟩
    · exact .base (.tup (s _ _ h))
    · exact .fTuple (s _ _ h)
    · exact .kTuple hk hc
theorem rc_isi {T : String} (h : d.tyv = some t) (hk : PySem.W.kitOne B.K t (.type T) = some p) : RC B (zIsi B.K) [d, .ty T] (.bl p) := fun xs G H Q s r q => by
  cases r with
  | cons r1 r2 =>
    cases r2 with
    | cons r2 r3 =>
      cases r3; cases r2
      exact ⟨_, _, t, .type T, p, rfl, .ty T, r1.tyx s h, hk, q _ G H (.refl s) (.bl p)⟩
end
end Z

/-! Z8: defs and classes of the text as bundles; the head's facts by tests of one's own. -/
namespace Z
open PySem PySem.Spec PyProof.Rows L2

/-! ### a def with its promise -/
structure Df (P : Program) (w : World) (K : PySem.W.Frag) (mg : Str → Option Value) (base : Heap) (x : Str) (ps : List Str) (k : Nat) (F : Fn) : Prop where
  ex : ∃ f fd, FnOk P w K mg base (L2.CX P w) k f fd ps (spz K F) ∧ mg x = some (.ref f) ∧ PySem.W.keepIn K (.ref f) = true ∧ Binds K fd ps []
section
variable {X : Cx} {W : WX} {x : Str} {ps : List Str} {k : Nat} {F : Fn} {p pos : Pos} {e : Expr} {es : List Expr} {t : TA}
theorem pe_callZ (D : Df X.prog X.w X.K X.mg X.base x ps k F) (hr : Room k X.A) (tk : Takes X W) (ha : PA X (e :: es) t) (hg : Gl X x := by rfl) (hdb : (x == ("__debug__" : Str)) = false := by decide)
    (he : starEach (e :: es) X.env = (false, eval e X.env) :: starEach es X.env := by rfl) (hpl : (backTo pos (starEach es X.env)).any (·.1) = false := by rfl) :
    PE X (.Call (.Name x p) (e :: es) [] pos) (tCallS (spz X.K F) (WE W) t) := by
  obtain ⟨f, fd, G, gm, kp, b⟩ := D.ex
  exact pe_callS G hr hg gm kp b (fun σ => passAt tk σ) ha hdb he hpl
/-- where nothing may be let out -/
theorem pe_callN (D : Df X.prog X.w X.K X.mg X.base x ps k F) (hr : Room k X.A) (ha : PA X (e :: es) t) (hg : Gl X x := by rfl) (hdb : (x == ("__debug__" : Str)) = false := by decide)
    (he : starEach (e :: es) X.env = (false, eval e X.env) :: starEach es X.env := by rfl) (hpl : (backTo pos (starEach es X.env)).any (·.1) = false := by rfl) :
    PE X (.Call (.Name x p) (e :: es) [] pos) (tCall (spz X.K F) [] E0 t) := by
  obtain ⟨f, fd, G, gm, kp, b⟩ := D.ex
  exact pe_call G hr hg gm kp b .nil passL ha hdb he hpl
theorem pe_callN0 (D : Df X.prog X.w X.K X.mg X.base x ps k F) (hr : Room k X.A) (hg : Gl X x := by rfl) (hdb : (x == ("__debug__" : Str)) = false := by decide) :
    PE X (.Call (.Name x p) [] [] pos) (tCall (spz X.K F) [] E0 tNil) := by
  obtain ⟨f, fd, G, gm, kp, b⟩ := D.ex
  exact pe_call0 G hr hg gm kp b .nil passL hdb
end

/-! ### an own exception class with an __init__ that keeps its arguments -/
structure Dx (P : Program) (w : World) (K : PySem.W.Frag) (mg : Str → Option Value) (base : Heap) (x : Str) (C : Addr) (ps : List Str) (sp : Sp) : Prop where
  oex : OexC K C
  gm : mg x = some (.ref C)
  ex : ∃ fI fd, FnOk P w K mg base (L2.CX P w) 1 fI fd ps sp ∧ PySem.W.findIn K (.ref C) "__init__" = some (some (.ref fI)) ∧ PySem.W.typeIn K (.ref fI) = some (.type "function") ∧ Binds K fd ps []
section
variable {X : Cx} {W : WX} {x : Str} {C : Addr} {ps : List Str} {sp : Sp} {p pos pos2 : Pos} {e : Expr} {es : List Expr} {t : TA}
theorem ps_raiseZ (D : Dx X.prog X.w X.K X.mg X.base x C ps sp) (hc : X.calm = true) (hr : Room 2 X.A) (tk : Takes X W) (ha : PA X (e :: es) t) (hg : Gl X x := by rfl) (hdb : (x == ("__debug__" : Str)) = false := by decide)
    (he : starEach (e :: es) X.env = (false, eval e X.env) :: starEach es X.env := by rfl) (hpl : (backTo pos (starEach es X.env)).any (·.1) = false := by rfl) :
    PS X (.Raise (some (.Call (.Name x p) (e :: es) [] pos)) none pos2) (fun _ σ H => tMkO C sp [] t σ H fun cls d H' => W cls d σ H') := by
  obtain ⟨fI, fd, F1, iC, tI, b⟩ := D.ex
  exact ps_raise hc tk (pmk_oex D.oex iC tI F1 hr b .nil (fun _ _ _ _ _ _ _ h => by obtain ⟨_, _, _, _, _, _, _, _, _, _, _, _, z⟩ := h; exact z.elim) hg D.gm ha hdb he hpl)
end

/-! ### e.f and isinstance(e, c) in an except suite, whatever its class -/
def tXg (K : PySem.W.Frag) (a : Addr) (cls : Value) (d : Option Addr) (f : Str) (te : TE) : TE := fun σ H Q => te σ H fun x H1 => x = .ref a ∧ ∃ (C dd : Addr) (fs : List (Str × V)) (v : V), cls = .ref C ∧ d = some dd ∧ XfC K C ∧ PySem.W.findIn K (.ref C) f = some none ∧ H1 dd = some (.xd fs) ∧ fs.lookup f = some v ∧ Q v H1
theorem pe_xg {X : Cx} {a : Addr} {oe : Obj} {cls : Value} {d : Option Addr} {pn : List (Addr × Obj)} {e : Expr} {te : TE} {pos : Pos} {n : Str}
    (hz : Zc cls d oe) (hf : ∃ vs, oe.data = .fields vs) (he : PE (X.suite a ((a, oe) :: pn)) e te) (hb : attributeBase e n X.env (eval e X.env) = eval e X.env := by rfl) :
    PE (X.suite a ((a, oe) :: pn)) (.Attribute e n pos) (tXg X.K a cls d n te) := by
  refine ⟨fun pins s σ H Q I h => ?_⟩
  refine attr_of hb (thn (he.run pins s σ H _ I h) fun u s1 hh => ?_)
  obtain ⟨x, H1, I1, rx, ex, C, dd, fs, v, ec, ed, T, hno, ea, l, q⟩ := hh
  subst ex
  obtain rfl : u = Value.ref a := rx
  subst ec
  subst ed
  obtain ⟨ha, _⟩ := I1.pin (a, oe) (List.mem_append_left _ List.mem_cons_self)
  obtain ⟨vs, hd⟩ := hf
  have hx : ObjOk X.prog X.w H1 s1.heap dd (.xd fs) := I1.hok dd _ ea
  obtain ⟨mA, hns, hr⟩ := hx
  obtain ⟨od, ho, hl⟩ := lookIn_ns hns
  obtain ⟨u, hu, ru⟩ := RelO.some_of (v := v) (o := mA n) (by rw [← l]; exact hr n)
  have J : PySem.W.InstAt s1.heap a oe C (some od) := ⟨ha, hz.1, by unfold PySem.W.notCls; rw [hd] <;> rfl, by rw [hz.2]; exact ho⟩
  exact HandSPX.exc_get I1.kIn J T.ga T.gg T.exC (PySem.W.findObj_own T.hdC hno rfl (by rw [hl, hu])) (handed_of ru) ⟨v, H1, I1.tok _, ru, q⟩
def rIsG (K : PySem.W.Frag) (a : Addr) (cls : Value) (d : Option Addr) : List V → Hp → VK → Prop := fun xs H Q => ∃ (D dd : Addr), cls = .ref D ∧ d = some dd ∧ ExcC K D ∧ rIsX K D a dd xs H Q
theorem call_isG {X : Cx} {a : Addr} {cls : Value} {d : Option Addr} {oe : Obj} {pn : List (Addr × Obj)} (hz : Zc cls d oe) (hf : ∃ vs, oe.data = .fields vs) : CallR (X.suite a ((a, oe) :: pn)) (.builtin "isinstance") (rIsG X.K a cls d) := by
  intro pins s σ H xs us Q I r h
  obtain ⟨D, dd, rfl, rfl, C, q⟩ := h
  exact call_isX C hz hf pins s σ H xs us Q I r q
section
variable {B : Bx} {Γ : List Sl} {aa : TA} {te : TE} {d e : D} {C : Addr} {f : Str} {p : Bool}
theorem ev_xg {a dd : Addr} {fs : List (Str × D)} (h : Ev B te Γ (.xc a dd fs)) (T : XfC B.K C) (hno : PySem.W.findIn B.K (.ref C) f = some none) (hl : fs.lookup f = some d) : Ev B (tXg B.K a (.ref C) (some dd) f te) Γ d := fun σ G H Q S q =>
  h σ G H _ S fun v G1 H1 f1 r => by
    cases r with
    | xc h1 r1 =>
      obtain ⟨v, e, r⟩ := r1.lookup hl
      exact ⟨rfl, C, dd, _, v, rfl, rfl, T, hno, f1.e _ _ h1, e, q v G1 H1 f1 r⟩
theorem ev_isG {a dd : Addr} {fs : List (Str × D)} {E : Addr} (ha : EvA B aa Γ [.xc a dd fs, .ref E]) (T : ExcC B.K C) (hk : PySem.W.kitOne B.K (.ref C) (.ref E) = some p) : Ev B (tCB (rIsG B.K a (.ref C) (some dd)) aa) Γ (.bl p) := fun σ G H Q S q =>
  ha σ G H _ S fun vs G1 H1 f r => by
    cases r with
    | cons r1 r2 =>
      cases r2 with
      | cons r2 r3 =>
        cases r3
        cases r2
        cases r1 with
        | xc h1 _ => exact ⟨C, dd, rfl, rfl, T, _, .ref E, p, _, rfl, .own E, f.e _ _ h1, hk, q _ G1 H1 f (.bl p)⟩
end

/-! ### tests of the written part -/
def oexB (K : PySem.W.Frag) (C : Addr) : Bool := (match K.lookup C with
  | some ⟨.type t, _, .cls cd, sl⟩ => (match cd.mro, sl.toList with
    | .ref C' :: bm, [_, _, _, _, some (.builtin n), _] => decide (t = "type") && decide (C' = C) && decide (n = "ValueError.__new__") && !cd.hasDel && cd.hasDict && PySem.HandSPX.refsVE bm
    | _, _ => false)
  | _ => false) && (decide (PySem.W.findIn K (.ref C) "__setattr__" = some (some (.builtin "object.__setattr__"))) && (decide (PySem.W.subIn K (.ref C) (.type "BaseException") = some true) && (decide (PySem.W.typeIn K (.ref C) = some (.type "type")) && PySem.W.keepIn K (.ref C))))
theorem oexB_ok {K : PySem.W.Frag} {C : Addr} (h : oexB K C = true) : OexC K C := by
  unfold oexB at h
  rw [Bool.and_eq_true, Bool.and_eq_true, Bool.and_eq_true, Bool.and_eq_true] at h
  obtain ⟨h1, h2, h3, h4, h5⟩ := h
  refine ⟨?_, of_decide_eq_true h2, of_decide_eq_true h3, of_decide_eq_true h4, h5⟩
  split at h1
  · rename_i t dd cd sl ho
    split at h1
    · rename_i C' bm k0 k1 k2 k3 n k5 hm hs
      simp only [Bool.and_eq_true, decide_eq_true_eq, Bool.not_eq_true'] at h1
      obtain ⟨⟨⟨⟨⟨rfl, rfl⟩, rfl⟩, hdel⟩, hdict⟩, hre⟩ := h1
      obtain ⟨nm, bs, mro, ns, qn, hd, sn, sub, ab, col, del⟩ := cd
      dsimp only at hm hdel hdict
      subst hm hdel hdict
      have hsl : sl = #[k0, k1, k2, k3, some (.builtin "ValueError.__new__"), k5] := by
        obtain ⟨l⟩ := sl
        simp only at hs
        rw [hs]
      subst hsl
      exact ⟨nm, qn, ns, bs, bm, sn, sub, ab, col, dd, k0, k1, k2, k3, k5, ho, hre⟩
    · cases h1
  · cases h1
def excCB (K : PySem.W.Frag) (D : Addr) : Bool :=
  decide (PySem.W.findIn K (.ref D) "__getattribute__" = some (some (.builtin "BaseException.__getattribute__"))) && (decide (PySem.W.findIn K (.ref D) "__getattr__" = some none) && (decide (PySem.W.subIn K (.ref D) (.type "BaseException") = some true) && (PySem.W.hasDictIn K D &&
  (decide (PySem.W.findIn K (.ref D) "__class__" = some (some (.builtin "object.__class__"))) && (decide (PySem.W.specialIn K (.builtin "object.__class__") "__get__" = some (some (.builtin "getset_descriptor.__get__"))) && (decide (PySem.W.takesIn K (.builtin "object.__class__") = some true) && decide (PySem.W.mroIn K D (.type "object") = some true)))))))
theorem excCB_ok {K : PySem.W.Frag} {D : Addr} (h : excCB K D = true) : ExcC K D := by
  unfold excCB at h
  simp only [Bool.and_eq_true, decide_eq_true_eq] at h
  obtain ⟨h1, h2, h3, h4, h5, h6, h7, h8⟩ := h
  exact ⟨h1, h2, h3, h4, h5, h6, h7, h8⟩
/-- a class of the text: where it stands, its __init__ -/
def initB (K : PySem.W.Frag) (x : Str) : Bool := decide (PySem.W.findIn K (.ref (He.ga K x)) "__init__" = some (some (.ref (He.ma K (He.ga K x) "__init__")))) && decide (PySem.W.typeIn K (.ref (He.ma K (He.ga K x) "__init__")) = some (.type "function"))
theorem initB_ok {K : PySem.W.Frag} {x : Str} (h : initB K x = true) : PySem.W.findIn K (.ref (He.ga K x)) "__init__" = some (some (.ref (He.ma K (He.ga K x) "__init__"))) ∧ PySem.W.typeIn K (.ref (He.ma K (He.ga K x) "__init__")) = some (.type "function") := by
  unfold initB at h
  simp only [Bool.and_eq_true, decide_eq_true_eq] at h
  exact h
def gloB (K : PySem.W.Frag) (x : Str) : Bool := (He.Fa.glo x).ok K
def freeB (K : PySem.W.Frag) (x : Str) : Bool := (He.Fa.free x).ok K

/-! ### the Hook -/
def obsZ (ts : List (PySem.W.Frag → Bool)) (fn : List He.DefD) (K : PySem.W.Frag) : He.AlD := ((ts.all fun f => f K) && fn.all fun d => d.ok K, fn.map fun d => He.fnW K d.at_)
def SaysZ (ts : List (PySem.W.Frag → Bool)) (fn : List He.DefD) (K : PySem.W.Frag) : Prop := obsZ ts fn K = He.valD fn
def obsZG (n : Nat) (ts : List (PySem.W.Frag → Bool)) (fn : List He.DefD) (g : Addr → Option Obj) : He.AlD := obsZ ts fn (He.frG g (He.asD g n))
def hookZ (n : Nat) (ts : List (PySem.W.Frag → Bool)) (fn : List He.DefD) : PySem.W.Hook where
  α := He.AlD
  obs := fun s => obsZG n ts fn s.heap.get?
  val := fun _ => He.valD fn
  says := fun _ h => ∃ K : PySem.W.Frag, K.In h ∧ SaysZ ts fn K
  of := fun _ _ e => ⟨_, He.frG_in, e⟩
  keeps := fun _ _ _ ⟨K, hK, c⟩ k => ⟨K, PySem.W.Frag.In.keeps hK k, c⟩
theorem obsZG_eq {n : Nat} {ts : List (PySem.W.Frag → Bool)} {fn : List He.DefD} {g : Addr → Option Obj} {s : Shared} (h : ∀ a, g a = s.heap.get? a) : obsZG n ts fn g = (hookZ n ts fn).obs s := by
  have e : g = s.heap.get? := funext h
  rw [e] <;> rfl
section
variable {ts : List (PySem.W.Frag → Bool)} {fn : List He.DefD} {K : PySem.W.Frag}
theorem SaysZ.fact (c : SaysZ ts fn K) (i : Nat) {f : PySem.W.Frag → Bool} (h : ts[i]? = some f := by rfl) : f K = true := by
  have c1 := (He.ba (show ((ts.all fun f => f K) && fn.all fun d => d.ok K) = true from congrArg (fun z : He.AlD => z.1) c)).1
  exact List.all_eq_true.mp c1 f (List.mem_of_getElem? h)
theorem SaysZ.def_ (c : SaysZ ts fn K) (i : Nat) {d : He.DefD} (h : fn[i]? = some d := by rfl) : ∃ fd, FunD K d.name d.qual d.params d.body d.scope (d.dvs K) (d.kws K) (He.fAd K d.at_) fd := by
  have c2 := (He.ba (show ((ts.all fun f => f K) && fn.all fun d => d.ok K) = true from congrArg (fun z : He.AlD => z.1) c)).2
  have e : fn.map (fun d => He.fnW K d.at_) = fn.map He.DefD.val := congrArg (fun z : He.AlD => z.2) c
  have e2 : (fn.map fun d => He.fnW K d.at_)[i]? = (fn.map He.DefD.val)[i]? := by rw [e]
  rw [List.getElem?_map, List.getElem?_map, h] at e2
  exact He.DefD.funD (Option.some.inj e2) (List.all_eq_true.mp c2 d (List.mem_of_getElem? h))
end
/-- the entry: what the promise gives, as slots -/
def ini (N : List Str) (ds : List D) : List Sl := ds.map Sl.dat ++ List.replicate (N.length - ds.length) Sl.un
theorem stt_start {K : PySem.W.Frag} {G H : Hp} {N : List Str} {vs : List V} {ds : List D} (s : Same G H) (r : Rps K G vs ds) : Stt ⟨K, G, H⟩ (ini N ds) (L2.start N vs) G H := by
  have hl := r.length
  have hno : ∀ (i : Nat) o, (ini N ds)[i]? ≠ some (.own o) := fun i o h => by
    unfold ini at h
    have hm := List.mem_of_getElem? h
    rw [List.mem_append, List.mem_map, List.mem_replicate] at hm
    rcases hm with ⟨d, _, e⟩ | ⟨_, e⟩ <;> cases e
  refine ⟨.refl s, by unfold L2.start ini; simp [hl], fun i t h => ?_, fun i j o u a h => absurd h (hno i o), fun i o a h => absurd h (hno i o)⟩
  unfold ini at h
  by_cases hi : i < ds.length
  · rw [List.getElem?_append_left (by simpa using hi), List.getElem?_map] at h
    cases e : ds[i]? with
    | none => rw [e] at h; cases h
    | some d =>
      rw [e] at h
      cases h
      obtain ⟨v, h1, h2⟩ := r.get e
      unfold L2.start
      rw [List.getElem?_append_left (by simpa [hl] using hi), List.getElem?_map, h1]
      exact ⟨v, rfl, h2⟩
  · rw [List.getElem?_append_right (by simpa using hi)] at h
    rw [List.getElem?_replicate] at h
    split at h
    · cases h; trivial
    · cases h
/-- the end of a def: from the data's promise to the layer's -/
theorem sv_def {K : PySem.W.Frag} {F : Fn} {N : List Str} {t : TS} {vs : List V} {H : Hp} {Q : VK} {E : XK} (h : spz K F vs H Q E)
    (hb : ∀ G ds R X, F ds R X → Sv ⟨K, G, H⟩ (fun cls d _ H' => E cls d H') t (ini N ds) { nx := fun _ => R (.dat .non), rt := R, xc := fun x _ => X x }) : t { nx := fun _ H' => Q .non H', rt := Q } (L2.start N vs) H := by
  obtain ⟨G, ds, R, X, s, r, f, q, qe⟩ := h
  refine hb G ds R X f _ (L2.start N vs) G H ⟨fun Γ σ G' H' h _ S => q (.dat .non) _ G' H' h S.fw .non, fun _ _ _ _ z => z.elim, fun _ _ _ _ z => z.elim, fun s v G' H' h f r => q s v G' H' h f r, fun x Γ cls dd σ G' H' h _ S xo => qe x cls dd G' H' h S.fw xo⟩ (stt_start s r)
/-- an __init__ of one field -/
theorem init1 {K : PySem.W.Frag} {C : Addr} {f : Str} {vs : List V} {H : Hp} {Q : VK} {E : XK} {a b : Str}
    (T : OexC K C) (hno : PySem.W.findIn K (.ref C) f = some none) (h : spX1 C f vs H Q E) : tOst K f (tVar 0) (tVar 1) { nx := fun _ H' => Q .non H', rt := Q } (L2.start [a, b] vs) H := by
  obtain ⟨c, y, rfl, hc, q⟩ := h
  exact ⟨y, rfl, _, rfl, c, C, rfl, T, hno, .inl ⟨hc, fun dx n ne => q dx n ne⟩⟩
theorem init2 {K : PySem.W.Frag} {C : Addr} {f g : Str} {vs : List V} {H : Hp} {Q : VK} {E : XK} {a b c : Str}
    (T : OexC K C) (hno : PySem.W.findIn K (.ref C) f = some none) (hno2 : PySem.W.findIn K (.ref C) g = some none) (h : spX2 C f g vs H Q E) :
    tSeq (tOst K f (tVar 0) (tVar 1)) (tOst K g (tVar 0) (tVar 2)) { nx := fun _ H' => Q .non H', rt := Q } (L2.start [a, b, c] vs) H := by
  obtain ⟨c, y, z, rfl, hc, q⟩ := h
  refine ⟨y, rfl, _, rfl, c, C, rfl, T, hno, .inl ⟨hc, fun dx n ne => ?_⟩⟩
  refine ⟨z, rfl, _, rfl, c, C, rfl, T, hno2, .inr ⟨dx, [(f, y)], upd_same, exo_exd _ ne, by show 1 ≤ 900; decide, q dx n ne⟩⟩
theorem spX1_len {C : Addr} {f : Str} (vs : List V) (H : Hp) (Q : VK) (E : XK) (h : spX1 C f vs H Q E) : vs.length = 2 := by
  obtain ⟨_, _, rfl, _⟩ := h; rfl
theorem spX2_len {C : Addr} {f g : Str} (vs : List V) (H : Hp) (Q : VK) (E : XK) (h : spX2 C f g vs H Q E) : vs.length = 3 := by
  obtain ⟨_, _, _, rfl, _⟩ := h; rfl
end Z

/-! Z9: names of the built-ins; methods of texts; truth. -/
namespace Z
open PySem PySem.Spec PyProof.Rows L2
theorem bt_len : bootBuiltins "len" = some (.builtin "len") := by decide +kernel
theorem bt_int : bootBuiltins "int" = some (.type "int") := by decide +kernel
theorem bt_str : bootBuiltins "str" = some (.type "str") := by decide +kernel
theorem bt_bool : bootBuiltins "bool" = some (.type "bool") := by decide +kernel
theorem bt_list : bootBuiltins "list" = some (.type "list") := by decide +kernel
theorem bt_tuple : bootBuiltins "tuple" = some (.type "tuple") := by decide +kernel
theorem bt_dict : bootBuiltins "dict" = some (.type "dict") := by decide +kernel
theorem bt_set : bootBuiltins "set" = some (.type "set") := by decide +kernel
theorem bt_ValueError : bootBuiltins "ValueError" = some (.type "ValueError") := by decide +kernel
theorem bt_isinstance : bootBuiltins "isinstance" = some (.builtin "isinstance") := by decide +kernel
theorem bt_min : bootBuiltins "min" = some (.builtin "min") := by decide +kernel
theorem bt_max : bootBuiltins "max" = some (.builtin "max") := by decide +kernel
theorem bt_sum : bootBuiltins "sum" = some (.builtin "sum") := by decide +kernel
theorem bt_all : bootBuiltins "all" = some (.builtin "all") := by decide +kernel
theorem bt_sorted : bootBuiltins "sorted" = some (.builtin "sorted") := by decide +kernel

section
open PySem.StrLaws Builtin Builtin.Str
theorem occ_count (x : Str) (c : Nat) : ∀ (m k : Nat) (st : Array Nat × Nat), st.2 ≤ k → st.1.size ≤ k → k + m = x.length + 1 →
    (forIn (List.range' k m) st (occBody x ⟨#[c]⟩ x.length (x.length + 1))).run.fst.size = st.1.size + (x.cps.toList.drop k).count c
  | 0, k, st, _, _, h => by
    have e : x.cps.toList.drop k = [] := List.drop_eq_nil_of_le (by rw [Array.length_toList]; show x.length ≤ k; omega)
    rw [e]
    rfl
  | m + 1, k, st, h1, h2, h => by
    rw [List.range'_succ, List.forIn_cons]
    unfold occBody
    have hk : k ≤ x.length := by omega
    by_cases hc : k + (⟨#[c]⟩ : Str).length ≤ x.length ∧ subAt x ⟨#[c]⟩ k = true
    · have hx := (subAt_one x c k).mp hc
      have cnd : (st.1.size < x.length + 1 ∧ st.2 ≤ k) ∧ k + (⟨#[c]⟩ : Str).length ≤ x.length := ⟨⟨by omega, h1⟩, hc.1⟩
      rw [if_pos ⟨cnd, hc.2⟩]
      have ih := occ_count x c m (k + 1) (st.1.push k, k + (⟨#[c]⟩ : Str).length) (by show k + 1 ≤ k + 1; omega) (by rw [Array.size_push]; omega) (by omega)
      have ed : x.cps.toList.drop k = c :: x.cps.toList.drop (k + 1) := by
        obtain ⟨hlt, e⟩ := List.getElem?_eq_some_iff.mp hx
        rw [← e]
        exact List.drop_eq_getElem_cons hlt
      rw [ed, List.count_cons_self]
      rw [Array.size_push] at ih
      have := ih
      show (forIn (List.range' (k + 1) m) (st.1.push k, k + (⟨#[c]⟩ : Str).length) (occBody x ⟨#[c]⟩ x.length (x.length + 1))).run.fst.size = _
      rw [ih]
      omega
    · have cnd : ¬ (((st.1.size < x.length + 1 ∧ st.2 ≤ k) ∧ k + (⟨#[c]⟩ : Str).length ≤ x.length) ∧ subAt x ⟨#[c]⟩ k = true) := fun q => hc ⟨q.1.2, q.2⟩
      rw [if_neg cnd]
      have ih := occ_count x c m (k + 1) st (by omega) (by omega) (by omega)
      show (forIn (List.range' (k + 1) m) (st.1, st.2) (occBody x ⟨#[c]⟩ x.length (x.length + 1))).run.fst.size = _
      rw [show (st.1, st.2) = st from rfl, ih]
      have hx : x.cps.toList[k]? ≠ some c := fun q => hc ((subAt_one x c k).mpr q)
      by_cases hlt : k < x.cps.toList.length
      · rw [List.drop_eq_getElem_cons hlt, List.count_cons]
        rw [List.getElem?_eq_getElem hlt] at hx
        have : (x.cps.toList[k] == c) = false := by
          simp only [beq_eq_false_iff_ne]
          exact fun q => hx (congrArg some q)
        rw [this]
        simp
      · rw [List.drop_eq_nil_of_le (by omega), List.drop_eq_nil_of_le (by omega)]
theorem txt_count (a : List Nat) (c : Nat) : Txt.count (tx a) (tx [c]) = (a.count c : Nat) := by
  unfold Txt.count
  have h := occ_count (tx a) c ((tx a).length + 1) 0 (#[], 0) (Nat.le_refl _) (by simp) (by omega)
  rw [List.drop_zero, tx_cps] at h
  have e : (occurrences (tx a) (tx [c]) 0 (tx a).length ((tx a).length + 1)).length = a.count c := by
    rw [occ_eq]
    rw [Array.length_toList]
    have h2 : (tx a).length + 1 - 0 = (tx a).length + 1 := by omega
    rw [h2]
    have h3 : _ = (#[] : Array Nat).size + List.count c a := h
    rw [show (#[] : Array Nat).size + List.count c a = List.count c a from Nat.zero_add _] at h3
    exact h3
  rw [e]
end
/-- joined by a separator -/
def joinL (sep : List Nat) : List (List Nat) → List Nat
  | [] => []
  | [x] => x
  | x :: y :: r => x ++ sep ++ joinL sep (y :: r)
theorem join_fold (sep : List Nat) : ∀ (r : List (List Nat)) (acc x : List Nat), (r.map tx).foldl (fun acc p => acc ++ (tx sep).cps ++ p.cps) (acc ++ x).toArray = (acc ++ joinL sep (x :: r)).toArray
  | [], acc, x => by simp [joinL]
  | y :: r, acc, x => by
    rw [List.map_cons, List.foldl_cons]
    have e : (acc ++ x).toArray ++ (tx sep).cps ++ (tx y).cps = (acc ++ x ++ sep ++ y).toArray := by simp [tx]
    rw [e, join_fold sep r (acc ++ x ++ sep) y]
    simp [joinL]
theorem txt_join (sep : List Nat) (xs : List (List Nat)) : Txt.join (tx sep) (xs.map tx) = tx (joinL sep xs) := by
  cases xs with
  | nil => rfl
  | cons x r =>
    have h := join_fold sep r [] x
    show (⟨_⟩ : Str) = ⟨_⟩
    congr 1
def rCountT : V → List V → Hp → VK → Prop := fun x xs H Q => ∃ a b, x = .str a ∧ xs = [.str b] ∧ Q (.int (Txt.count a b)) H
def zJoin (K : PySem.W.Frag) : V → List V → Hp → VK → Prop := fun x xs H Q => ∃ a p, ∃ ys : List Str, x = .str a ∧ xs = [.ref p] ∧ (SqL K H p (ys.map V.str) ∨ SqT K H p (ys.map V.str)) ∧ (ys.map (·.length)).sum + ys.length * a.length ≤ 16777216 ∧ Q (.str (Txt.join a ys)) H
theorem mt_zCountT {X : Cx} : MtR X "str.count" rCountT := mt_count
theorem mt_zJoin {X : Cx} : MtR X "str.join" (zJoin X.K) := mt_join
def zTru (K : PySem.W.Frag) (ta : TE) : TT := fun σ H Q => ta σ H fun x H' => ∃ k, TruV K x H' k ∧ Q k H'
theorem pt_zTru {X : Cx} {a : Expr} {ta : TE} (ha : PE X a ta) (he : ∀ whole, isTrue a X.env whole = (do let v ← whole; standAt a.pos; holding [v] (truthy v)) := by intro _; rfl) : PT X a (zTru X.K ta) := pt_truth ha he
section
variable {B : Bx} {Γ : List Sl} {to te : TE} {aa : TA} {a : List Nat} {as ds : List D} {c : D}
theorem ev_bmT {x : Str} {r : V → List V → Hp → VK → Prop} (ho : Ev B to Γ (.str x)) (ha : EvA B aa Γ as) (hr : RM B r (.str x) as c) : Ev B (tBM B.K "str" r to aa) Γ c := fun σ G H Q S q =>
  ho σ G H _ S fun v G1 H1 f1 r1 => by
    cases r1
    exact ⟨rfl, ha σ G1 H1 _ (S.step f1) fun vs G2 H2 f2 r2 => hr _ vs G2 H2 Q f2.e (.str _) r2 fun v G3 H3 f3 r3 => q v G3 H3 ((f1.trans f2).trans f3) r3⟩
theorem ev_bmT0 {x : Str} {r : V → List V → Hp → VK → Prop} (ho : Ev B to Γ (.str x)) (hr : RM B r (.str x) [] c) : Ev B (tBM0 B.K "str" r to) Γ c := fun σ G H Q S q =>
  ho σ G H _ S fun v G1 H1 f1 r1 => by
    cases r1
    exact ⟨rfl, hr _ [] G1 H1 Q f1.e (.str _) .nil fun v G3 H3 f3 r3 => q v G3 H3 (f1.trans f3) r3⟩
theorem rm_count {n : Nat} : RM B rCountT (.str (tx a)) [.str (tx [n])] (.int (a.count n : Nat)) := fun x xs G H Q s r rs q => by
  cases r
  cases rs with
  | cons r1 r2 =>
    cases r1; cases r2
    exact ⟨_, _, rfl, rfl, by rw [txt_count]; exact q _ G H (.refl s) (.int _)⟩
theorem map_tx (xs : List (List Nat)) : (xs.map fun a => V.str (tx a)) = (xs.map tx).map V.str := by rw [List.map_map]; rfl
theorem rm_join {xs : List (List Nat)} (h : (xs.map (·.length)).sum + xs.length * a.length ≤ 16777216) : RM B (zJoin B.K) (.str (tx a)) [.lst (xs.map fun x => .str (tx x))] (.str (tx (joinL a xs))) := fun x ys G H Q s r rs q => by
  cases r
  cases rs with
  | cons r1 r2 =>
    cases r2
    cases r1 with
    | lst h1 r1 =>
      have e := rps_txs_inv r1
      subst e
      rw [map_tx] at h1
      refine ⟨_, _, xs.map tx, rfl, rfl, .inl (same_l s h1), ?_, by rw [txt_join]; exact q _ G H (.refl s) (.str _)⟩
      have e2 : ((xs.map tx).map (·.length)) = xs.map (·.length) := by rw [List.map_map]; exact List.map_congr_left fun x _ => tx_length x
      rw [e2, List.length_map, tx_length]
      exact h
theorem evt_truL (h : Ev B te Γ (.lst ds)) : EvT B (zTru B.K te) Γ (!ds.isEmpty) := fun σ G H Q S q =>
  h σ G H _ S fun v G1 H1 f r => by
    cases r with
    | lst h1 r1 => exact ⟨_, .inl ⟨_, same_l f.e h1, rfl⟩, by
        have := r1.length
        rename_i xs
        have e : (!xs.isEmpty) = !ds.isEmpty := by cases r1 <;> rfl
        rw [e]; exact q G1 H1 f⟩
end
end Z

/-! Z10: tactics by name; cell and digits, the helpers of every law. -/
namespace Z
open PySem PySem.Spec PyProof.Rows L2
theorem log2_lt {n k : Nat} (h : n < 2 ^ k) (hk : 0 < k) : n.log2 < k := by
  by_cases h0 : n = 0
  · subst h0; exact hk
  · exact (Nat.log2_lt h0).mpr h
theorem cmul_s {i j : Int} (h1 : -(2 ^ 200) < i) (h2 : i < 2 ^ 200) (h3 : -(2 ^ 200) < j) (h4 : j < 2 ^ 200) : CMulW i j := by
  have a := log2_lt (n := i.natAbs) (k := 200) (by omega) (by decide)
  have b := log2_lt (n := j.natAbs) (k := 200) (by omega) (by decide)
  unfold CMulW
  omega
theorem cdiv_s {i j : Int} (h1 : 0 < j) (h2 : j < 2 ^ 200) : CDivW i j := by
  have b := log2_lt (n := j.natAbs) (k := 200) (by omega) (by decide)
  unfold CDivW
  omega
theorem ru_neg {B : Bx} {i : Int} : RU B (rU fun i => .int (-i)) (.int i) (.int (-i)) := fun x G H Q s rx q => by
  cases rx; exact ⟨i, rfl, q _ G H (.refl s) (.int _)⟩
theorem ev_tupX {B : Bx} {Γ : List Sl} {aa : TA} {ds : List D} (ha : EvA B aa Γ ds) (hl : ds.length ≤ 16777216) : Ev B (tTup aa) Γ (.tup ds) := ev_tup ha hl
theorem evo_lstX {B : Bx} {Γ : List Sl} {aa : TA} {ds : List D} (ha : EvA B aa Γ ds) (hl : ds.length ≤ 16777216) : EvO B (tLst aa) Γ (.lst ds) := evo_lst ha hl
local macro_rules | `(tactic| walk_at "at") => `(tactic| first | with_reducible exact SetAt.zero | ((with_reducible apply SetAt.succ); walk_at "at"))
local macro_rules | `(tactic| walk_at "sd") => `(tactic| first | (with_reducible assumption) | omega | decide | exact Nat.le_of_ble_eq_true rfl)
local macro_rules | `(tactic| walk_at "cm") => `(tactic| first | (with_reducible assumption) | (refine cmul_s ?_ ?_ ?_ ?_ <;> first | omega | decide))
local macro_rules | `(tactic| walk_at "rv") => `(tactic| first
  | with_reducible exact rv_add | ((with_reducible apply rv_addT); walk_at "sd") | ((with_reducible apply rv_addL); walk_at "sd") | ((with_reducible apply rv_addU); walk_at "sd")
  | with_reducible exact rv_sub | ((with_reducible apply rv_mul); walk_at "cm") | ((with_reducible apply rv_mulT) <;> walk_at "sd")
  | ((with_reducible apply rv_div); first | assumption | exact cdiv_s (by walk_at "sd") (by walk_at "sd")) | ((with_reducible apply rv_mod); walk_at "sd") | ((with_reducible apply rv_pow); exact ⟨by decide, by decide, by decide⟩)
  | with_reducible exact rv_lt | with_reducible exact rv_le | with_reducible exact rv_gt | with_reducible exact rv_ge
  | with_reducible exact rv_eqI | with_reducible exact rv_eqT | with_reducible exact rv_eqB | with_reducible exact rv_neI | with_reducible exact rv_neT | with_reducible exact rv_neB
  | ((with_reducible apply rv_ixL); first | assumption | exact rfl) | ((with_reducible apply rv_ixU); first | assumption | exact rfl) | ((with_reducible apply rv_ixT); (focus (first | assumption | exact rfl)); walk_at "sd")
  | with_reducible exact rv_isN | with_reducible exact rv_isN' | with_reducible exact rv_notN'
  | with_reducible exact rv_inT | with_reducible exact rv_ninT | with_reducible exact rv_inTs | with_reducible exact rv_ninTs | with_reducible assumption)
local macro_rules | `(tactic| walk_at "rc") => `(tactic| first | with_reducible exact rc_int | with_reducible exact rc_intB | with_reducible exact rc_lenL | with_reducible exact rc_lenU | ((with_reducible apply rc_lenT); walk_at "sd") | with_reducible exact rc_min | with_reducible exact rc_max | ((with_reducible apply rc_isi); (focus (exact rfl)); decide) | with_reducible assumption)
local macro_rules | `(tactic| walk_at "rs") => `(tactic| first | with_reducible exact rs_slL | with_reducible exact rs_slU | ((with_reducible apply rs_slT); walk_at "sd"))
local macro_rules | `(tactic| walk_at "ru") => `(tactic| first | ((with_reducible apply ru_rev); walk_at "sd") | with_reducible exact ru_neg)
local macro_rules | `(tactic| walk_at "rm") => `(tactic| first | with_reducible exact rm_count | with_reducible assumption)
local macro_rules | `(tactic| walk_at "eo") => `(tactic| first
  | ((with_reducible apply evo_lstX); (focus (walk_at "ev")); exact Nat.le_of_ble_eq_true rfl)
  | ((with_reducible apply evo_callS); (focus (walk_at "ev")); (focus (walk_at "fn")))
  | with_reducible assumption)
local macro_rules | `(tactic| walk_at "ev") => `(tactic| first
  | ((with_reducible apply ev_var); exact rfl)
  | with_reducible exact ev_int | with_reducible exact ev_str | with_reducible exact ev_bl | with_reducible exact ev_non | with_reducible exact ev_ty | with_reducible exact ev_ref
  | with_reducible exact eva_nil
  | ((with_reducible apply eva_cons); (focus (walk_at "ev")); (focus (walk_at "ev")))
  | ((with_reducible apply ev_op); (focus (walk_at "ev")); (focus (walk_at "ev")); (focus (walk_at "rv")))
  | ((with_reducible apply ev_cb); (focus (walk_at "ev")); (focus (walk_at "rc")))
  | ((with_reducible apply evt_test); (focus (walk_at "ev")))
  | ((with_reducible apply evt_b); (focus (walk_at "ev")))
  | ((with_reducible apply evt_not); (focus (walk_at "ev")))
  | ((with_reducible apply evt_and); (focus (walk_at "ev")); (focus (intro _; walk_at "ev")))
  | ((with_reducible apply evt_or); (focus (walk_at "ev")); (focus (intro _; walk_at "ev")))
  | with_reducible exact evt_yes
  | ((with_reducible apply ev_and); (focus (walk_at "ev")); (focus (intro _; walk_at "ev")))
  | ((with_reducible apply ev_or); (focus (walk_at "ev")); (focus (intro _; walk_at "ev")))
  | ((with_reducible apply ev_not); (focus (walk_at "ev")))
  | ((with_reducible apply ev_callS); (focus (walk_at "ev")); (focus (walk_at "fn")))
  | ((with_reducible apply ev_call); (focus (walk_at "ev")); (focus (walk_at "fn")))
  | ((with_reducible apply ev_tupX); (focus (walk_at "ev")); exact Nat.le_of_ble_eq_true rfl)
  | with_reducible exact evp_none
  | ((with_reducible apply evp_some); (focus (walk_at "ev")))
  | ((with_reducible apply ev_sl); (focus (walk_at "ev")); (focus (walk_at "ev")); (focus (walk_at "ev")); (focus (walk_at "rs")))
  | ((with_reducible apply ev_un); (focus (walk_at "ev")); (focus (walk_at "ru")))
  | ((with_reducible apply ev_bmT); (focus (walk_at "ev")); (focus (walk_at "ev")); (focus (walk_at "rm")))
  | ((with_reducible apply ev_bmT0); (focus (walk_at "ev")); (focus (walk_at "rm")))
  | ((with_reducible apply evi_list); (focus (walk_at "ev")))
  | ((with_reducible apply evi_tup); (focus (walk_at "ev")))
  | ((with_reducible apply evi_str); (focus (walk_at "ev")))
  | ((with_reducible apply evi_rng1); (focus (walk_at "ev")); (focus (constructor <;> walk_at "sd")))
  | ((with_reducible apply evi_rng2); (focus (walk_at "ev")); (focus (constructor <;> walk_at "sd")); (focus (constructor <;> walk_at "sd")))
  | ((with_reducible apply Ev.of_own); walk_at "eo")
  | with_reducible assumption)
local macro_rules | `(tactic| walk_at "st") => `(tactic| repeat (first
  | (with_reducible apply sv_seq)
  | ((with_reducible apply sv_set); (focus (walk_at "ev")); (focus (walk_at "at")))
  | ((with_reducible apply sv_drop); (focus (walk_at "ev")))
  | (with_reducible apply sv_next)))
local macro_rules | `(tactic| walk_at "eq") => `(tactic| (with_reducible apply ev_eq); (focus (walk_at "ev")); rfl)
section
variable {B : Bx} {W : WX} {Γ : List Sl} {P : Po} {tb : TS} {g : TG} {wi : TI}
/-- for, by the index -/
theorem sv_forI {α : Type} (enc : α → D) (xs : List α) (hi : EvI B wi Γ (xs.map enc)) (V : Nat → List Sl → Prop) (h0 : V 0 Γ) (hd : ∀ Γ', V xs.length Γ' → P.nx Γ')
    (hs : ∀ i x Γ', xs[i]? = some x → V i Γ' → ∃ Γ2, EvG B g Γ' (enc x) Γ2 ∧ Sv B W tb Γ2 { P with nx := V (i + 1), ct := V (i + 1), bk := P.nx }) : Sv B W (tFor wi g tb) Γ P :=
  sv_for enc xs hi (fun r Γ' => ∃ i, i ≤ xs.length ∧ r = xs.drop i ∧ V i Γ') ⟨0, Nat.zero_le _, rfl, h0⟩
    (fun Γ' ⟨i, hl, e, v⟩ => by
      have : xs.length ≤ i := List.drop_eq_nil_iff.mp e.symm
      have e2 : i = xs.length := Nat.le_antisymm hl this
      subst e2
      exact hd Γ' v)
    fun x r Γ' _ ⟨i, hl, e, v⟩ => by
      have hlt : i < xs.length := by
        rcases Nat.lt_or_ge i xs.length with h | h
        · exact h
        · rw [List.drop_eq_nil_of_le h] at e; cases e
      rw [List.drop_eq_getElem_cons hlt] at e
      injection e with e1 e2
      obtain ⟨Γ2, hg, hb⟩ := hs i x Γ' (by rw [List.getElem?_eq_getElem hlt, e1]) v
      exact ⟨Γ2, hg, sv_post hb (fun _ q => ⟨i + 1, hlt, e2, q⟩) (fun _ q => q) (fun _ q => q) (fun _ q => ⟨i + 1, hlt, e2, q⟩) fun _ _ q => q⟩
theorem sv_forR {n : Nat} (hi : EvI B wi Γ ((List.range n).map fun k => .int (k : Nat))) (V : Nat → List Sl → Prop) (h0 : V 0 Γ) (hd : ∀ Γ', V n Γ' → P.nx Γ')
    (hs : ∀ k Γ', k < n → V k Γ' → ∃ Γ2, EvG B g Γ' (.int (k : Nat)) Γ2 ∧ Sv B W tb Γ2 { P with nx := V (k + 1), ct := V (k + 1), bk := P.nx }) : Sv B W (tFor wi g tb) Γ P :=
  sv_forI _ (List.range n) hi V h0 (fun Γ' v => hd Γ' (by rw [List.length_range] at v; exact v)) fun i x Γ' hx v => by
    obtain ⟨hlt, e⟩ := List.getElem?_eq_some_iff.mp hx
    rw [List.length_range] at hlt
    rw [List.getElem_range] at e
    subst e
    exact hs i Γ' hlt v
end
/-! cell -/
def cellStep (s c : Int) : Int := (s * 31 + c % 1000003) % 1000003
def cellZ (ns : List Int) (k : Int) : Int := match ns[k.toNat]? with
  | some n => n % (10 ^ 60 * 10 ^ 60)
  | none => (ns.foldl cellStep 17 + 7) * (k + 3) * 69621 % 2147483647
theorem cellStep_lt (s c : Int) : 0 ≤ cellStep s c ∧ cellStep s c < 1000003 := ⟨Int.emod_nonneg _ (by decide), Int.emod_lt_of_pos _ (by decide)⟩
theorem cellZ_lt (ns : List Int) (k : Int) : 0 ≤ cellZ ns k ∧ cellZ ns k < 10 ^ 120 := by
  unfold cellZ
  split
  · exact ⟨Int.emod_nonneg _ (by decide), Int.emod_lt_of_pos _ (by decide)⟩
  · have h1 := Int.emod_nonneg ((List.foldl cellStep 17 ns + 7) * (k + 3) * 69621) (show (2147483647 : Int) ≠ 0 by decide)
    have h2 := Int.emod_lt_of_pos ((List.foldl cellStep 17 ns + 7) * (k + 3) * 69621) (show (0 : Int) < 2147483647 by decide)
    omega
def ztCell (K : PySem.W.Frag) : TS :=
  (tSeq (tIfS (tTest (tOp zLt (tVar 1) (tCB (zLen K) (tCons (tVar 0) tNil)))) (tRet (tOp zMod (tCB zInt (tCons (tOp (zIx K) (tVar 0) (tVar 1)) tNil)) (tOp zMul (tOp zPow (tC (.int 10)) (tC (.int 60))) (tOp zPow (tC (.int 10)) (tC (.int 60)))))) tNext)
  (tSeq (tAsg (tC (.int 17)) (gName 2))
  (tSeq (tFor (iList K (tVar 0)) (gName 3) (tAsg (tOp zMod (tCB zInt (tCons (tOp (zAdd K) (tOp zMul (tVar 2) (tC (.int 31))) (tOp zMod (tCB zInt (tCons (tVar 3) tNil)) (tC (.int 1000003)))) tNil)) (tC (.int 1000003))) (gName 2)))
  (tRet (tOp zMod (tCB zInt (tCons (tOp zMul (tOp zMul (tOp (zAdd K) (tVar 2) (tC (.int 7))) (tOp (zAdd K) (tVar 1) (tC (.int 3)))) (tC (.int 69621))) tNil)) (tC (.int 2147483647)))))))
def Fcell : Fn := fun ds R _ => ∃ (ns : List Int) (k : Int), ds = [.lst (ns.map .int), .int k] ∧ 0 ≤ k ∧ k < 2 ^ 62 ∧ R (.dat (.int (cellZ ns k)))
theorem pure_cell (B : Bx) (W : WX) (ds : List D) (R : Sl → Prop) (X : Xc → Prop) (h : Fcell ds R X) : Sv B W (ztCell B.K) (ini ["script", "k", "seed", "cell"] ds) { nx := fun _ => R (.dat .non), rt := R, xc := fun x _ => X x } := by
  obtain ⟨ns, k, rfl, h0, h1, hR⟩ := h
  show Sv B W _ [.dat (.lst (ns.map .int)), .dat (.int k), .un, .un] _
  refine sv_seq (sv_if (by walk_at "ev") (fun hk => ?_) fun hk => ?_)
  · rw [List.length_map] at hk
    have hlt : k.toNat < ns.length := by have := of_decide_eq_true hk; omega
    have hx : atI (ns.map D.int) k = some (.int ns[k.toNat]) := by
      have e : ((k.toNat : Nat) : Int) = k := by omega
      have h2 : atI (ns.map D.int) ((k.toNat : Nat) : Int) = some (.int ns[k.toNat]) := atI_ofNat (by rw [List.getElem?_map, List.getElem?_eq_getElem hlt]; rfl)
      rw [e] at h2
      exact h2
    have c1 : CMulW (10 ^ (60 : Int).toNat) (10 ^ (60 : Int).toNat) := cmul_s (by decide +kernel) (by decide +kernel) (by decide +kernel) (by decide +kernel)
    have c2 : (0 : Int) < 10 ^ (60 : Int).toNat * 10 ^ (60 : Int).toNat := by decide +kernel
    refine sv_ret (by walk_at "ev") ?_
    unfold cellZ at hR
    rw [List.getElem?_eq_getElem hlt] at hR
    exact hR
  · rw [List.length_map] at hk
    have hge : ns.length ≤ k.toNat := by have := of_decide_eq_false hk; omega
    refine sv_next ?_
    walk_at "st"
    refine sv_for D.int ns (by walk_at "ev") (fun r Γ' => ∃ (s : Int) (c : Sl), Γ' = [.dat (.lst (ns.map .int)), .dat (.int k), .dat (.int s), c] ∧ 0 ≤ s ∧ s < 1000003 ∧ ns.foldl cellStep 17 = r.foldl cellStep s) ⟨17, _, rfl, by decide, by decide, rfl⟩ ?_ ?_
    · rintro Γ' ⟨s, c, rfl, b1, b2, e⟩
      have hv : cellZ ns k = (s + 7) * (k + 3) * 69621 % 2147483647 := by
        unfold cellZ
        rw [List.getElem?_eq_none hge, e]
        rfl
      rw [hv] at hR
      refine sv_ret ?_ hR
      have c1 : CMulW (s + 7) (k + 3) := cmul_s (by omega) (by omega) (by omega) (by omega)
      have c2 : CMulW ((s + 7) * (k + 3)) 69621 := by
        have m1 : 0 ≤ (s + 7) * (k + 3) := Int.mul_nonneg (by omega) (by omega)
        have m2 : (s + 7) * (k + 3) ≤ 2 ^ 64 * 2 ^ 64 := Int.mul_le_mul (by omega) (by omega) (by omega) (by omega)
        exact cmul_s (by omega) (by omega) (by decide) (by decide)
      walk_at "ev"
    · rintro x r Γ' _ ⟨s, c, rfl, b1, b2, e⟩
      refine ⟨_, evg_name (by walk_at "at"), ?_⟩
      refine sv_set (by walk_at "ev") (by walk_at "at") ?_
      exact ⟨_, _, rfl, (cellStep_lt s x).1, (cellStep_lt s x).2, e⟩
/-! digits -/
def digA : Int → List Int → List Int
  | _, [] => []
  | r, s :: ss => r % s :: digA (r / s) ss
def digSeed (seed : Int) (k : Nat) : Int := (seed * 48271 + 974711 * (k : Nat) + 12345) % 2147483647
def digTwice (seed : Int) : Int := seed * (seed / 65537 + 3) % 2147483629
def digB : Int → Nat → List Int → List Int
  | _, _, [] => []
  | seed, k, s :: ss => digTwice (digSeed seed k) / 19 % s :: digB (digSeed seed k) (k + 1) ss
def digits (z : Int) (sizes : List Int) : List Int := if 10 ^ 18 ≤ z then digA (z - 10 ^ 18) sizes else digB (z % 2147483629) 0 sizes
theorem digA_len : ∀ (ss : List Int) (r : Int), (digA r ss).length = ss.length
  | [], _ => rfl
  | s :: ss, r => congrArg (· + 1) (digA_len ss (r / s))
theorem digB_len : ∀ (ss : List Int) (r : Int) (k : Nat), (digB r k ss).length = ss.length
  | [], _, _ => rfl
  | s :: ss, r, k => congrArg (· + 1) (digB_len ss _ _)
theorem digits_len (z : Int) (ss : List Int) : (digits z ss).length = ss.length := by
  unfold digits
  split
  · exact digA_len _ _
  · exact digB_len _ _ _
theorem digA_lt : ∀ (ss : List Int) (r : Int) (i : Nat) (s : Int), ss[i]? = some s → 0 < s → ∃ d, (digA r ss)[i]? = some d ∧ 0 ≤ d ∧ d < s
  | [], _, _, _, h, _ => by simp at h
  | t :: ss, r, 0, s, h, hs => by
    simp at h; subst h
    exact ⟨_, rfl, Int.emod_nonneg _ (by omega), Int.emod_lt_of_pos _ hs⟩
  | t :: ss, r, i + 1, s, h, hs => by
    obtain ⟨d, h1, h2⟩ := digA_lt ss (r / t) i s (by simpa using h) hs
    exact ⟨d, by simpa [digA] using h1, h2⟩
theorem digB_lt : ∀ (ss : List Int) (r : Int) (k : Nat) (i : Nat) (s : Int), ss[i]? = some s → 0 < s → ∃ d, (digB r k ss)[i]? = some d ∧ 0 ≤ d ∧ d < s
  | [], _, _, _, _, h, _ => by simp at h
  | t :: ss, r, k, 0, s, h, hs => by
    simp at h; subst h
    exact ⟨_, rfl, Int.emod_nonneg _ (by omega), Int.emod_lt_of_pos _ hs⟩
  | t :: ss, r, k, i + 1, s, h, hs => by
    obtain ⟨d, h1, h2⟩ := digB_lt ss (digSeed r k) (k + 1) i s (by simpa using h) hs
    exact ⟨d, by simpa [digB] using h1, h2⟩
theorem digits_lt (z : Int) (ss : List Int) (i : Nat) (s : Int) (h : ss[i]? = some s) (hs : 0 < s) : ∃ d, (digits z ss)[i]? = some d ∧ 0 ≤ d ∧ d < s := by
  unfold digits
  split
  · exact digA_lt ss _ i s h hs
  · exact digB_lt ss _ 0 i s h hs
theorem digSeed_lt (s : Int) (k : Nat) : 0 ≤ digSeed s k ∧ digSeed s k < 2147483647 := ⟨Int.emod_nonneg _ (by decide), Int.emod_lt_of_pos _ (by decide)⟩
def ztDigits (K : PySem.W.Frag) : TS :=
  (tSeq (tAsg (tLst tNil) (gName 2))
  (tSeq (tAsg (tCB zInt (tCons (tVar 0) tNil)) (gName 3))
  (tSeq (tIfS (tTest (tOp zGe (tVar 3) (tOp zPow (tC (.int 10)) (tC (.int 18))))) (tSeq (tAsg (tOp zSub (tVar 3) (tOp zPow (tC (.int 10)) (tC (.int 18)))) (gName 3))
  (tSeq (tFor (iList K (tVar 1)) (gName 4) (tSeq (tDrop (tBM K "list" rAppend (tVar 2) (tCons (tOp zMod (tCB zInt (tCons (tVar 3) tNil)) (tVar 4)) tNil)))
  (tAsg (tOp zDiv (tCB zInt (tCons (tVar 3) tNil)) (tVar 4)) (gName 3))))
  (tRet (tVar 2)))) tNext)
  (tSeq (tAsg (tOp zMod (tCB zInt (tCons (tVar 3) tNil)) (tC (.int 2147483629))) (gName 5))
  (tSeq (tFor (iRng1 (tCons (tCB (zLen K) (tCons (tVar 1) tNil)) tNil)) (gName 6) (tSeq (tAsg (tOp zMod (tCB zInt (tCons (tOp (zAdd K) (tOp (zAdd K) (tOp zMul (tVar 5) (tC (.int 48271))) (tOp zMul (tC (.int 974711)) (tVar 6))) (tC (.int 12345))) tNil)) (tC (.int 2147483647))) (gName 5))
  (tSeq (tAsg (tOp zMod (tCB zInt (tCons (tOp zMul (tVar 5) (tOp (zAdd K) (tOp zDiv (tVar 5) (tC (.int 65537))) (tC (.int 3)))) tNil)) (tC (.int 2147483629))) (gName 7))
  (tDrop (tBM K "list" rAppend (tVar 2) (tCons (tOp zMod (tOp zDiv (tVar 7) (tC (.int 19))) (tOp (zIx K) (tVar 1) (tVar 6))) tNil))))))
  (tRet (tVar 2)))))))
def Fdigits : Fn := fun ds R _ => ∃ (z : Int) (ss : List Int), ds = [.int z, .lst (ss.map .int)] ∧ (∀ s ∈ ss, 0 < s ∧ s < 2 ^ 100) ∧ ss.length < 1000000 ∧ R (.own (.lst ((digits z ss).map .int)))
theorem map_snoc (row : List Int) (d : Int) : row.map D.int ++ [.int d] = (row ++ [d]).map D.int := by simp
theorem pure_digits (B : Bx) (W : WX) (ds : List D) (R : Sl → Prop) (X : Xc → Prop) (h : Fdigits ds R X) : Sv B W (ztDigits B.K) (ini ["cell", "sizes", "row", "rest", "size", "seed", "k", "twice"] ds) { nx := fun _ => R (.dat .non), rt := R, xc := fun x _ => X x } := by
  obtain ⟨z, ss, rfl, hs, hl, hR⟩ := h
  show Sv B W _ [.dat (.int z), .dat (.lst (ss.map .int)), .un, .un, .un, .un, .un, .un] _
  refine sv_seq (sv_setO (by walk_at "eo") (by walk_at "at") ?_)
  refine sv_seq (sv_set (by walk_at "ev") (by walk_at "at") ?_)
  refine sv_seq (sv_if (by walk_at "ev") (fun hk => ?_) fun hk => ?_)
  · refine sv_seq (sv_set (by walk_at "ev") (by walk_at "at") ?_)
    have hz : 10 ^ 18 ≤ z := of_decide_eq_true hk
    unfold digits at hR
    rw [if_pos hz] at hR
    refine sv_seq (sv_forI D.int ss (by walk_at "ev") (fun i Γ' => ∃ (row : List Int) (r : Int) (c : Sl), Γ' = [.dat (.int z), .dat (.lst (ss.map .int)), .own (.lst (row.map .int)), .dat (.int r), c, .un, .un, .un] ∧ row.length = i ∧ digA (z - 10 ^ 18) ss = row ++ digA r (ss.drop i)) ⟨[], _, _, rfl, rfl, rfl⟩ ?_ ?_)
    · rintro Γ' ⟨row, r, c, rfl, hr, e⟩
      rw [List.drop_length] at e
      rw [e] at hR
      refine sv_retOv rfl ?_
      show R _
      rw [show digA r [] = [] from rfl, List.append_nil] at hR
      exact hR
    · rintro i x Γ' hx ⟨row, r, c, rfl, hr, e⟩
      have hlt : i < ss.length := (List.getElem?_eq_some_iff.mp hx).1
      obtain ⟨hx1, hx2⟩ := hs x (List.mem_of_getElem? hx)
      refine ⟨_, evg_name (by walk_at "at"), ?_⟩
      refine sv_seq (sv_app rfl (by walk_at "ev") (by rw [List.length_map]; omega) (by walk_at "at") ?_)
      refine sv_set (by walk_at "ev") (by walk_at "at") ?_
      refine ⟨row ++ [r % x], r / x, .dat (.int x), by rw [map_snoc], by simp [hr], ?_⟩
      · rw [e]
        have ed : ss.drop i = x :: ss.drop (i + 1) := by
          rw [List.drop_eq_getElem_cons hlt]
          rw [List.getElem?_eq_getElem hlt] at hx
          rw [Option.some.inj hx]
        rw [ed]
        simp [digA]
  · refine sv_next ?_
    have hz : ¬ 10 ^ 18 ≤ z := of_decide_eq_false hk
    unfold digits at hR
    rw [if_neg hz] at hR
    refine sv_seq (sv_set (by walk_at "ev") (by walk_at "at") ?_)
    have hi : EvI B (iRng1 (tCons (tCB (zLen B.K) (tCons (tVar 1) tNil)) tNil)) [.dat (.int z), .dat (.lst (ss.map .int)), .own (.lst []), .dat (.int z), .un, .dat (.int (z % 2147483629)), .un, .un] ((List.range ss.length).map fun k => .int (k : Nat)) := by
      have := evi_rng1 (B := B) (Γ := [.dat (.int z), .dat (.lst (ss.map .int)), .own (.lst []), .dat (.int z), .un, .dat (.int (z % 2147483629)), .un, .un]) (aa := tCons (tCB (zLen B.K) (tCons (tVar 1) tNil)) tNil) (n := ((ss.map D.int).length : Nat)) (by walk_at "ev") (by rw [List.length_map]; omega)
      rw [List.length_map] at this
      exact this
    refine sv_seq (sv_forR hi (fun i Γ' => ∃ (row : List Int) (s : Int) (c1 c2 : Sl), Γ' = [.dat (.int z), .dat (.lst (ss.map .int)), .own (.lst (row.map .int)), .dat (.int z), .un, .dat (.int s), c1, c2] ∧ row.length = i ∧ 0 ≤ s ∧ s < 2147483647 ∧ digB (z % 2147483629) 0 ss = row ++ digB s i (ss.drop i)) ⟨[], _, _, _, rfl, rfl, by omega, by omega, rfl⟩ ?_ ?_)
    · rintro Γ' ⟨row, s, c1, c2, rfl, hr, b1, b2, e⟩
      rw [List.drop_length] at e
      rw [e] at hR
      refine sv_retOv rfl ?_
      show R _
      rw [show digB s ss.length [] = [] from rfl, List.append_nil] at hR
      exact hR
    · rintro i Γ' hlt ⟨row, s, c1, c2, rfl, hr, b1, b2, e⟩
      have hx : ss[i]? = some ss[i] := List.getElem?_eq_getElem hlt
      obtain ⟨hx1, hx2⟩ := hs ss[i] (List.getElem_mem hlt)
      obtain ⟨q1, q2⟩ := digSeed_lt s i
      have hat : atI (ss.map D.int) ((i : Nat) : Int) = some (.int ss[i]) := atI_ofNat (by rw [List.getElem?_map, hx]; rfl)
      refine ⟨_, evg_name (by walk_at "at"), ?_⟩
      refine sv_seq (sv_set (d := .int (digSeed s i)) (by walk_at "eq") (by walk_at "at") ?_)
      have c1 : CMulW (digSeed s i) (digSeed s i / 65537 + 3) := cmul_s (by omega) (by omega) (by omega) (by omega)
      refine sv_seq (sv_set (d := .int (digTwice (digSeed s i))) (by walk_at "eq") (by walk_at "at") ?_)
      refine sv_app rfl (by walk_at "ev") (by rw [List.length_map]; omega) (by walk_at "at") ?_
      refine ⟨row ++ [digTwice (digSeed s i) / 19 % ss[i]], digSeed s i, .dat (.int (i : Nat)), .dat (.int (digTwice (digSeed s i))), by rw [map_snoc], by simp [hr], q1, q2, ?_⟩
      · rw [e, List.drop_eq_getElem_cons hlt]
        simp [digB]
end Z

/-! Z11: the law's end. -/
namespace Z
open PySem PySem.Spec PyProof.Rows L2
/-- the law's promise -/
def Flaw : Fn := fun ds R _ => ∃ ns : List Int, ds = [.lst (ns.map .int)] ∧ ns.length ≤ 63 ∧ R (.dat (.bl true))
theorem flaw_len (ds : List D) (R : Sl → Prop) (X : Xc → Prop) (h : Flaw ds R X) : ds.length = 1 := by
  obtain ⟨_, rfl, _⟩ := h; rfl
theorem fcell_len (ds : List D) (R : Sl → Prop) (X : Xc → Prop) (h : Fcell ds R X) : ds.length = 2 := by
  obtain ⟨_, _, rfl, _⟩ := h; rfl
theorem fdigits_len (ds : List D) (R : Sl → Prop) (X : Xc → Prop) (h : Fdigits ds R X) : ds.length = 2 := by
  obtain ⟨_, _, rfl, _⟩ := h; rfl
theorem law_sp {K : PySem.W.Frag} (H : Hp) (a : Addr) (ns : List Int) (hl : ns.length ≤ 63) (hS : SqL K H a (ns.map V.int)) : spz K Flaw [.ref a] H (fun v _ => v = .bl true) fun _ _ _ => False :=
  ⟨H, [.lst (ns.map .int)], fun s => s = .dat (.bl true), fun _ => False, Same.refl _, .cons (.lst hS (rps_ints ns)) .nil, ⟨ns, rfl, hl, rfl⟩,
    fun s v G' H' e _ r => by subst e; cases r; rfl, fun _ _ _ _ _ z => z.elim⟩
/-- the law's end, where what flies knows the world -/
theorem walk_ofX {l : PySem.W.OpenLaw} {k : Nat} {q : Program} {loose : List Str} {XP : (Str → Option Value) → Heap → Prop} {YP : World → Heap → Prop} {d : DefRec} {x : Str}
    (hn : l.most = some 63) (hdf : d.params.defaults = []) (hr : Room k callerA)
    (F : ∀ (w : World) (mg : Str → Option Value) (fa : Addr) (h : Heap), YP w h → h.Ns mainGlobals mg → mg d.name = some (.ref fa) →
      ∃ (K : PySem.W.Frag) (fd : FuncData), K.In h ∧ (∀ (s : Shared) (u : Value), BindsTo s fd ⟨[u], []⟩ [(x, u)]) ∧
        ∀ base : Heap, K.In base → base.Ns mainGlobals mg → FnOk l.prog w K mg base (L2.CX l.prog w) k fa fd [x] (spz K Flaw)) :
    PySem.W.WalkO q loose XP YP l.row.toRowW d [] (fun f vs => PySem.call f vs) := by
  refine Att.attach_call hn hdf fun w s₀ s₁ mg mb fa o pm cd doc a vs ns G Y ho hd hcd hmg hobj hints hlen hg => ?_
  obtain ⟨K, fd, KX, hb, hF⟩ := F w mg fa _ Y G.T.g hmg
  exact law_call KX G.T.g G.T.b G.T.builtins G.T.nolimit hg hobj hints (Nat.le_trans hlen (by rw [sizeLine_eq]; decide)) hr hF hb (fun H _ hS => law_sp H a ns hlen hS)
    fun H e s' h => by obtain ⟨_, _, _, _, _, _, _, _, _, _, _, _, z⟩ := h; exact z
theorem fact_app {α : Type} {l r : List α} {i : Nat} {f : α} (h : l[i]? = some f) : (l ++ r)[i]? = some f := by
  have hlt := (List.getElem?_eq_some_iff.mp h).1
  rw [List.getElem?_append_left hlt]; exact h
theorem cut_take {α : Type} (xs : List α) (k : Nat) : cut xs none (some (k : Int)) = xs.take k := by
  unfold cut
  rw [HT.sIx_nat, HT.sIx_none, List.drop_zero, Nat.sub_zero]
  rcases Nat.le_total k xs.length with h | h
  · rw [Nat.min_eq_left h]
  · rw [Nat.min_eq_right h, List.take_of_length_le h, List.take_length]
theorem cut_drop {α : Type} (xs : List α) (k : Nat) : cut xs (some (k : Int)) none = xs.drop k := by
  unfold cut
  rw [HT.sIx_nat, HT.sIx_none]
  rcases Nat.le_total k xs.length with h | h
  · rw [Nat.min_eq_left h, List.take_of_length_le (by rw [List.length_drop]; exact Nat.le_refl _)]
  · rw [Nat.min_eq_right h, List.drop_length, List.drop_of_length_le h]; simp
theorem cut_sub {α : Type} (xs : List α) (k m : Nat) (h : k ≤ xs.length) (h2 : m ≤ xs.length) : cut xs (some (k : Int)) (some (m : Int)) = (xs.drop k).take (m - k) := by
  unfold cut
  rw [HT.sIx_nat, HT.sIx_nat, Nat.min_eq_left h, Nat.min_eq_left h2]

theorem kitT {K : PySem.W.Frag} {t : Value} : PySem.W.kitOne K t t = some true := if_pos (beq_self_eq_true t)
theorem strOk_tx {a : List Nat} (h : ∀ c ∈ a, c < 1114112) : PyData.strOk (tx a) = true := by
  unfold PyData.strOk tx
  rw [List.all_toArray, List.all_eq_true]
  intro c hc
  exact decide_eq_true (h c hc)
/-! named readings of the generator -/
def tTryAs (K : PySem.W.Frag) (c : Value) (i : Nat) (ts : Addr → Value → Option Addr → TS) (W : WX) (tb : WX → TS) : TS := fun D σ H => tb (wAs K c i ts W D) D σ H
def tTryOnly (K : PySem.W.Frag) (c : Value) (ts : Addr → Value → Option Addr → TS) (W : WX) (tb : WX → TS) : TS := fun D σ H => tb (wOnly K c ts W D) D σ H
def tRaise (C : Addr) (sp : Sp) (aa : TA) (W : WX) : TS := fun _ σ H => tMkO C sp [] aa σ H fun cls dd H' => W cls dd σ H'
section
variable {B : Bx} {W : WX} {Γ Γ' : List Sl} {P : Po} {aa : TA} {te : TE} {tt : TT} {d e : D} {C : Addr} {f g : Str} {wi : TI}
theorem svr1 (ha : EvA B aa Γ [d]) (k : P.xc ⟨C, [(f, d)]⟩ Γ) : Sv B W (tRaise C (spX1 C f) aa W) Γ P := sv_raise1 ha k
theorem svr2 (ha : EvA B aa Γ [d, e]) (k : P.xc ⟨C, [(g, e), (f, d)]⟩ Γ) : Sv B W (tRaise C (spX2 C f g) aa W) Γ P := sv_raise2 ha k
theorem svt_as {c : Value} {i : Nat} {tb : WX → TS} {ts : Addr → Value → Option Addr → TS} (hi : i < Γ.length)
    (hb : ∀ W', Sv B W' (tb W') Γ { P with xc := fun x Γx => (PySem.W.exmOne B.K (.ref x.C) c = some true ∧ Γx.length = Γ.length ∧ (∀ a d, Sv B W0 (ts a (.ref x.C) (some d)) (Γx.set i (.dat (.xc a d x.fs))) { P with nx := fun Γ' => Γ'.length = Γ.length ∧ P.nx (Γ'.set i .un), bk := fun Γ' => Γ'.length = Γ.length ∧ P.bk (Γ'.set i .un), ct := fun Γ' => Γ'.length = Γ.length ∧ P.ct (Γ'.set i .un), xc := fun _ _ => False }) ∧ x.fs ≠ [])
      ∨ (PySem.W.exmOne B.K (.ref x.C) c = some false ∧ P.xc x Γx) }) : Sv B W (tTryAs B.K c i ts W tb) Γ P := sv_try_as hi hb
theorem svt_only {c : Value} {tb : WX → TS} {ts : Addr → Value → Option Addr → TS}
    (hb : ∀ W', Sv B W' (tb W') Γ { P with xc := fun x Γx => (PySem.W.exmOne B.K (.ref x.C) c = some true ∧ (∀ a dd, Sv B W0 (ts a (.ref x.C) dd) Γx { P with xc := fun _ _ => False }))
      ∨ (PySem.W.exmOne B.K (.ref x.C) c = some false ∧ P.xc x Γx) }) : Sv B W (tTryOnly B.K c ts W tb) Γ P := sv_try_only hb
/-- a comprehension of one name -/
theorem evo_lc1 {α : Type} (enc : α → D) (xs : List α) (f : α → Bool) (v : α → D) {i : Nat} (hi : EvI B wi Γ (xs.map enc)) (hlen : i < Γ.length) (hl : xs.length < 16777216)
    (hs : ∀ x ∈ xs, EvT B tt (Γ.set i (.dat (enc x))) (f x) ∧ (f x = true → Ev B te (Γ.set i (.dat (enc x))) (v x))) : EvO B (tLc wi (gName i) tt te [i]) Γ (.lst ((xs.filter f).map v)) :=
  evo_lc enc xs f v hi (by simpa using hlen) hl fun x hx => ⟨_, evgw_name (SetAt.of (by rw [wipeS_len]; exact hlen)), by
    have e : (wipeS Γ [i]).set i (.dat (enc x)) = Γ.set i (.dat (enc x)) := by show (Γ.set i .un).set i _ = _; rw [List.set_set]
    rw [e]; exact hs x hx⟩
theorem evo_map1 {α : Type} (enc : α → D) (xs : List α) (v : α → D) {i : Nat} (hi : EvI B wi Γ (xs.map enc)) (hlen : i < Γ.length) (hl : xs.length < 16777216)
    (hs : ∀ x ∈ xs, Ev B te (Γ.set i (.dat (enc x))) (v x)) : EvO B (tLc wi (gName i) tYes te [i]) Γ (.lst (xs.map v)) := by
  have := evo_lc1 (tt := tYes) (te := te) enc xs (fun _ => true) v hi hlen hl fun x hx => ⟨evt_yes, fun _ => hs x hx⟩
  rw [List.filter_eq_self.mpr (fun _ _ => rfl)] at this
  exact this
/-- how many -/
theorem ev_lenLc {α : Type} {K : PySem.W.Frag} (hK : K = B.K) (enc : α → D) (xs : List α) (f : α → Bool) (v : α → D) {i : Nat} (hi : EvI B wi Γ (xs.map enc)) (hlen : i < Γ.length) (hl : xs.length < 16777216)
    (hs : ∀ x ∈ xs, EvT B tt (Γ.set i (.dat (enc x))) (f x) ∧ (f x = true → Ev B te (Γ.set i (.dat (enc x))) (v x))) : Ev B (tCB (zLen K) (tCons (tLc wi (gName i) tt te [i]) tNil)) Γ (.int ((xs.filter f).length : Nat)) := by
  subst hK
  have := ev_cb (eva_cons (Ev.of_own (evo_lc1 enc xs f v hi hlen hl hs)) eva_nil) rc_lenL
  rw [List.length_map] at this
  exact this
end
end Z

/-! Z12: try with several except clauses, with names or without. -/
namespace Z
open PySem PySem.Spec PyProof.Rows L2
abbrev Cl := Value × Option Nat × (Addr → Value → Option Addr → TS)
def endA (D : Ends) (i : Nat) : Ends := { nx := fun σ H => D.nx (σ.set i none) H, rt := D.rt, bk := fun σ H => D.bk (σ.set i none) H, ct := fun σ H => D.ct (σ.set i none) H }
def wManyA (K : PySem.W.Frag) (Wout : WX) (D : Ends) : List Cl → WX
  | [] => Wout
  | (c, o, ts) :: r => fun cls d σ H => ∃ b, PySem.W.exmOne K cls c = some b ∧
      (b = true → ∀ a, H a = none → match o with
        | none => ts a cls d D σ H
        | some i => ts a cls d (endA D i) (σ.set i (some (.ref a))) H) ∧ (b = false → wManyA K Wout D r cls d σ H)
abbrev SuiteOk (X : Cx) (ss : List Stmt) (ts : Addr → Value → Option Addr → TS) : Prop := ∀ (a : Addr) (oe : Obj) (cls : Value) (d : Option Addr) (pn : List (Addr × Obj)), Zc cls d oe → (∃ vs, oe.data = .fields vs) → PSs (X.suite a ((a, oe) :: pn)) ss (ts a cls d)
inductive HdsA (X : Cx) : List ExceptHandler → List Cl → Prop
  | nil : HdsA X [] []
  | only {x : Str} {c : Value} {ts : Addr → Value → Option Addr → TS} {b₀ : Stmt} {ss : List Stmt} {np p : Pos} {hds : List ExceptHandler} {l : List Cl} (hc : Names X x c) (hsu : SuiteOk X (b₀ :: ss) ts) (r : HdsA X hds l) :
      HdsA X (.ExceptHandler (some (.Name x np)) none (b₀ :: ss) p :: hds) ((c, none, ts) :: l)
  | named {x n : Str} {i : Nat} {c : Value} {ts : Addr → Value → Option Addr → TS} {b₀ : Stmt} {ss : List Stmt} {np p : Pos} {hds : List ExceptHandler} {l : List Cl} (hN : X.N.Nodup) (hi : X.N[i]? = some n) (hln : X.env.kindOf n = some .local) (hc : Names X x c) (hsu : SuiteOk X (b₀ :: ss) ts) (r : HdsA X hds l) :
      HdsA X (.ExceptHandler (some (.Name x np)) (some n) (b₀ :: ss) p :: hds) ((c, some i, ts) :: l)
section
variable {X : Cx} {body : List Stmt} {h₀ : ExceptHandler} {hds : List ExceptHandler} {l : List Cl} {pos : Pos} {tb : WX → TS} {Wout : WX}
theorem ps_try_manyA (hs : X.stack = X.env :: X.outer) (hf : X.env.frame = some X.env.locals) (tk : Takes X Wout)
    (hb : ∀ (W : WX) (pn : List (Addr × Obj)) (xe : Value → Shared → Prop), Takes (X.tr pn xe) W → PassesOwn (model X.prog X.w) X.A X.env xe → PSs (X.tr pn xe) body (tb W))
    (hh : HdsA X (h₀ :: hds) l) : PS X (.Try body (h₀ :: hds) [] [] pos) (fun D σ H => tb (wManyA X.K Wout D l) D σ H) := by
  refine ⟨fun pins s σ H D I h => wpAny_Try_except ?_⟩
  have ok := I.ok
  have frames : X.A.frames = some (X.env :: X.outer) := ok.frames.trans (congrArg some hs)
  let air : Value → Shared → Prop := fun e s₁ => wpAny (model X.prog X.w) X.A (noteFrame e X.env) (fun _ s₂ => wpAny (model X.prog X.w) X.A (setFlight e none) (fun _ s₃ =>
    wpAny (model X.prog X.w) X.A (handleBy e X.env (h₀ :: hds)) (SP X pins D) X.xe s₃) X.xe s₂) X.xe s₁
  refine wpAny_mono ((hb (wManyA X.K Wout D l) (X.pn ++ pins) air (fun u s' xx => ?_) PassesOwn.looking).run [] s σ H D (I.toTry _) h) (fun f s1 sp => ?_) (fun _ _ z => z)
  · obtain ⟨a, B, sI, q, σ', H', cls, d, rfl, Jt, nb, up, sky, na, os, ag, w⟩ := xx
    have J : Inv X pins σ' H' sI := Jt.ofTry ok
    have sky1 : Sky B (X.env :: X.outer) a (Zc cls d) X.env.locals s'.heap := hs ▸ sky
    refine Sky.land Zc.steady frames hf sky1 fun h3 fl3 up3 => ?_
    have J3 : Inv X pins σ' H' { s' with heap := h3 } := J.landed nb fl3.1 (up.trans up3) os ag
    obtain ⟨oe3, vs3, there3, z3, dat3⟩ := fl3.there
    have out : a ∉ frs (X.env :: X.outer) := fun hm => by
      obtain ⟨_, o', e', nf⟩ := fl3.2.2.1.mem hm
      have eo := there3.symm.trans e'
      cases eo
      exact nf _ dat3
    have nL : a ≠ X.env.locals := fun z => out (List.mem_filterMap.mpr ⟨X.env, List.mem_cons_self, hf.trans (congrArg some z.symm)⟩)
    have nF : a ∉ X.fs := fun hm => by
      obtain ⟨e, he, q⟩ := List.mem_filterMap.mp hm
      exact out (List.mem_filterMap.mpr ⟨e, List.mem_cons_of_mem _ he, q⟩)
    have S3 := J3.suite there3 dat3 na nL nF
    have LT : PySem.W.Looks (model X.prog X.w) h3 (typeOf (.ref a)) cls := fun A Q E s k q => wpAny_typeOf_ref (k _ _ there3) (by rw [z3.1]; exact q)
    have test : ∀ {x : Str} {c : Value} {np : Pos} {Q : Value → Shared → Prop} {E : Value → Shared → Prop}, Names X x c → Q c { s' with heap := h3 } → wpAny (model X.prog X.w) (X.A.mark (some (.ref a))) (eval (.Name x np) X.env) Q E { s' with heap := h3 } := fun {x c np Q E} hc q => by
      rcases hc with ⟨g, dbg, m | ⟨m, bo, nn⟩⟩
      · exact ld_glob (X := X.suite a ((a, oe3) :: (X.pn ++ pins))) S3 g m q dbg
      · exact ld_blt (X := X.suite a ((a, oe3) :: (X.pn ++ pins))) S3 g m bo q nn dbg
    have go : ∀ {hs1 : List ExceptHandler} {l1 : List Cl}, HdsA X hs1 l1 → wManyA X.K Wout D l1 cls d σ' H' → wpAny (model X.prog X.w) X.A (handleBy (.ref a) X.env hs1) (SP X pins D) X.xe { s' with heap := h3 } := by
      intro hs1 l1 hk
      induction hk with
      | nil =>
        intro w
        refine wpAny_handleBy_nil ?_
        obtain ⟨k1, k2, k3, oe, vs, T, oT, ts', he, hz, hd, h1, hr⟩ := id fl3
        unfold PySem.passOn
        refine wpAny_bind (wpAny_field he hd h1 ?_)
        rw [if_neg (show ¬ ((Value.ref T == Value.none) = true) from by simp)]
        have leave : wpAny (model X.prog X.w) X.A (setFlight (.ref a) X.env.frame) (fun _ s4 => wpAny (model X.prog X.w) X.A (throw (.ref a) : Sem Flow) (SP X pins D) X.xe s4) X.xe { s' with heap := h3 } := by
          rw [hf]
          exact HandSPX.setFlight_upZ fl3 fun h4 hh4 up4 => wpAny_throw (tk _ _ ⟨a, B, sI, pins, σ', H', cls, d, rfl, J, nb, (up.trans up3).trans up4, .inr (.inr (hs.symm ▸ hh4)), na, os, ag, w⟩)
        first
          | exact wpAny_bind (wpAny_pure (wpAny_bind leave))
          | exact wpAny_bind leave
      | only hc hsu r ih =>
        rintro ⟨b, hx, yes, no⟩
        refine wpAny_handleBy_cons (codeAny_handlers_test (test hc ((PySem.W.exm_one (M := model X.prog X.w) J3.kIn LT hx).here ?_))) (fun z => nomatch z)
        cases b with
        | false => exact ih (no rfl)
        | true =>
          refine codeAny_handlers_suite (HandSPX.lands_againZ fl3 fun h4 fl4 up4 => ?_)
          have J4 : Inv X pins σ' H' { s' with heap := h4 } := J.landed nb fl4.1 ((up.trans up3).trans up4) os ag
          obtain ⟨oe4, vs4, there4, z4, dat4⟩ := fl4.there
          refine wpAny_mono ((hsu a oe4 cls d (X.pn ++ pins) z4 ⟨_, dat4⟩).run [] _ _ H' _ (J4.suite there4 dat4 na nL nF) (yes rfl a na)) (fun f s6 sp => ?_) (fun _ _ z => z.elim)
          cases f with
          | ret u => obtain ⟨v, _, _, S6, rv, q⟩ := sp; exact ⟨v, _, _, S6.unsuite ok, rv, q⟩
          | next => obtain ⟨_, _, S6, q⟩ := sp; exact ⟨_, _, S6.unsuite ok, q⟩
          | brk => obtain ⟨_, _, S6, q⟩ := sp; exact ⟨_, _, S6.unsuite ok, q⟩
          | cont => obtain ⟨_, _, S6, q⟩ := sp; exact ⟨_, _, S6.unsuite ok, q⟩
      | named hN hi hln hc hsu r ih =>
        rintro ⟨b, hx, yes, no⟩
        refine wpAny_handleBy_cons (codeAny_handlers_test (test hc ((PySem.W.exm_one (M := model X.prog X.w) J3.kIn LT hx).here ?_))) (fun z => nomatch z)
        cases b with
        | false => exact ih (no rfl)
        | true =>
          refine codeAny_handlers_suite_as (HandSPX.lands_againZ fl3 fun h4 fl4 up4 => ?_)
          have J4 : Inv X pins σ' H' { s' with heap := h4 } := J.landed nb fl4.1 ((up.trans up3).trans up4) os ag
          obtain ⟨oe4, vs4, there4, z4, dat4⟩ := fl4.there
          refine store_ok (X := X.suite a ((a, oe4) :: (X.pn ++ pins))) (v := .ref a) (J4.suite there4 dat4 na nL nF) hN hi (.inl hln) rfl (fun s5 S5 => ?_) (.inr hln)
          refine wpAny_mono ((hsu a oe4 cls d (X.pn ++ pins) z4 ⟨_, dat4⟩).run [] s5 _ H' _ S5 (yes rfl a na)) (fun f s6 sp => ?_) (fun _ _ z => z.elim)
          cases f with
          | ret u => obtain ⟨v, _, _, S6, rv, q⟩ := sp; exact gone_ok (S6.unsuite ok) hN hi hln fun s7 J7 => ⟨v, _, _, J7, rv, q⟩
          | next => obtain ⟨_, _, S6, q⟩ := sp; exact gone_ok (S6.unsuite ok) hN hi hln fun s7 J7 => ⟨_, _, J7, q⟩
          | brk => obtain ⟨_, _, S6, q⟩ := sp; exact gone_ok (S6.unsuite ok) hN hi hln fun s7 J7 => ⟨_, _, J7, q⟩
          | cont => obtain ⟨_, _, S6, q⟩ := sp; exact gone_ok (S6.unsuite ok) hN hi hln fun s7 J7 => ⟨_, _, J7, q⟩
    exact go hh w
  · cases f with
    | ret u => obtain ⟨v, _, _, J, rv, q⟩ := sp; exact ⟨v, _, _, J.ofTry ok, rv, q⟩
    | next => obtain ⟨_, _, J, q⟩ := sp; exact wpAny_execs_nil ⟨_, _, J.ofTry ok, q⟩
    | brk => obtain ⟨_, _, J, q⟩ := sp; exact ⟨_, _, J.ofTry ok, q⟩
    | cont => obtain ⟨_, _, J, q⟩ := sp; exact ⟨_, _, J.ofTry ok, q⟩
end
def tTryMany (K : PySem.W.Frag) (l : List Cl) (W : WX) (tb : WX → TS) : TS := fun D σ H => tb (wManyA K W D l) D σ H

/-! by data -/
/-- what the clauses do with an exception x of the body at the slots Γx -/
def Caught (B : Bx) (W : WX) (P : Po) (n : Nat) (x : Xc) (Γx : List Sl) : List Cl → Prop
  | [] => P.xc x Γx
  | (c, o, ts) :: r => (PySem.W.exmOne B.K (.ref x.C) c = some true ∧ (match o with
      | none => ∀ a dd, Sv B W0 (ts a (.ref x.C) dd) Γx { P with xc := fun _ _ => False }
      | some i => i < n ∧ Γx.length = n ∧ x.fs ≠ [] ∧ ∀ a d, Sv B W0 (ts a (.ref x.C) (some d)) (Γx.set i (.dat (.xc a d x.fs))) { P with nx := fun Γ' => Γ'.length = n ∧ P.nx (Γ'.set i .un), bk := fun Γ' => Γ'.length = n ∧ P.bk (Γ'.set i .un), ct := fun Γ' => Γ'.length = n ∧ P.ct (Γ'.set i .un), xc := fun _ _ => False }))
      ∨ (PySem.W.exmOne B.K (.ref x.C) c = some false ∧ Caught B W P n x Γx r)
theorem svt_many {B : Bx} {W : WX} {Γ : List Sl} {P : Po} {l : List Cl} {tb : WX → TS} (n : Nat) (hb : ∀ W', Sv B W' (tb W') Γ { P with xc := fun x Γx => Caught B W P n x Γx l }) : Sv B W (tTryMany B.K l W tb) Γ P := fun D σ G H E S => by
  refine hb (wManyA B.K W D l) D σ G H ⟨E.nx, E.bk, E.ct, E.rt, fun x Γx cls dd σ' G' H' k s S' xo => ?_⟩ S
  obtain ⟨rfl, xo⟩ := xo
  clear hb
  induction l with
  | nil => exact E.xc x Γx _ dd σ' G' H' k s S' ⟨rfl, xo⟩
  | cons h r ih =>
    obtain ⟨c, o, ts⟩ := h
    rcases k with ⟨hx, hs⟩ | ⟨hx, hk⟩
    · refine ⟨true, hx, fun _ a ha => ?_, fun z => Bool.noConfusion z⟩
      cases o with
      | none => exact hs a dd D σ' G' H' ⟨fun Γ3 σ3 G3 H3 q s3 => E.nx _ _ G3 H3 q (s.trans s3), fun Γ3 σ3 G3 H3 q s3 => E.bk _ _ G3 H3 q (s.trans s3), fun Γ3 σ3 G3 H3 q s3 => E.ct _ _ G3 H3 q (s.trans s3), E.rt, fun _ _ _ _ _ _ _ z => z.elim⟩ S'
      | some i =>
        obtain ⟨hi, hl, hne, hs⟩ := hs
        rcases xo with ⟨h0, _⟩ | ⟨dxa, vs, rfl, hd, rf⟩
        · exact absurd h0 hne
        · refine hs a dxa _ _ G' H' ⟨fun Γ3 σ3 G3 H3 q s3 S3 => ?_, fun Γ3 σ3 G3 H3 q s3 S3 => ?_, fun Γ3 σ3 G3 H3 q s3 S3 => ?_, E.rt, fun _ _ _ _ _ _ _ z => z.elim⟩ (S'.set (by rw [hl]; exact hi) (.xc hd rf))
          · exact E.nx _ _ G3 H3 q.2 (s.trans s3) (S3.forget (by rw [q.1]; exact hi))
          · exact E.bk _ _ G3 H3 q.2 (s.trans s3) (S3.forget (by rw [q.1]; exact hi))
          · exact E.ct _ _ G3 H3 q.2 (s.trans s3) (S3.forget (by rw [q.1]; exact hi))
    · exact ⟨false, hx, (fun z => Bool.noConfusion z), fun _ => ih hk⟩
end Z

/-! Z13: defs called within an except suite that let nothing out. -/
namespace Z
open PySem PySem.Spec PyProof.Rows L2 L2H
/-- what a def promises there: an object p is kept aside -/
structure FnS (P : Program) (w : World) (K : PySem.W.Frag) (mg : Str → Option Value) (base : Heap) (k : Nat) (f : Addr) (fd : FuncData) (ps : List Str) (sp : Sp) : Prop where
  len : ∀ vs H Q E, sp vs H Q E → vs.length = ps.length
  run : ∀ (A : Around) (outer : List Env) (s : Shared) (H : Hp) (us : List Value) (vs : List V) (Q : VK) (E : XK) (p : Addr × Obj), RoomH k A → PinOk outer H s p → Env0 P w K mg base A outer s H → BindsTo s fd ⟨us, []⟩ (ps.zip us) → Vals vs us → sp vs H Q E →
    codeAny (model P w) A (.call (.ref f) ⟨us, []⟩) (CR (L2.CX P w) outer P w H s Q E) s
section
variable {P : Program} {w : World} {K : PySem.W.Frag} {mg : Str → Option Value} {base : Heap} {x qual : Str} {params : Arguments} {body : List Stmt} {scope : Scope} {f : Addr} {fd : FuncData} {N ps : List Str} {k : Nat} {sp : Sp}
theorem okS (F : FunD K x qual params body scope [] [] f fd) (S : FnScope N ps scope) (len : ∀ vs H Q E, sp vs H Q E → vs.length = ps.length)
    (hbody : ∀ (cdv : Value) (A : Around) (outer : List Env) (s : Shared) (H : Hp) (vs : List V) (Q : VK) (E : XK) (p : Addr × Obj), RoomH k (A.deeper (envOfC qual scope s.heap.objs.size f cdv)) → sp vs H Q E →
      ∃ t, PSs (cxH (L2.CX P w) P w K mg base N qual scope f cdv A outer s H E p) body t ∧ t { nx := fun _ H' => Q .non H', rt := Q } (L2.start N vs) H) : FnS P w K mg base (k + 1) f fd ps sp := by
  obtain ⟨oc, od, dV, kV, doc, pm, an, cdv, ct, osl, rfl, lk, hcd, _, _⟩ := F.ex
  refine ⟨len, fun A outer s H us vs Q E p hr pin e0 hb r hsp => ?_⟩
  have hkind : ∀ y ∈ ps.zip us, scope.names.lookup y.1 = some .local ∨ (scope.names.lookup y.1 = some .cell ∧ ((cellsFrom (s.heap.objs.size + 1) scope.names []).lookup y.1).isSome = true) := by
    rintro ⟨n, v⟩ hy
    rcases S.par n (List.of_mem_zip hy).1 with q | q
    · exact .inl q
    · exact .inr ⟨q, PySem.W.cellsFrom_some _ _ _ (.inl q)⟩
  have KX : K.In s.heap := e0.mod.kin.keeps fun b o e => (e0.bs b o e).1
  have lim : s.heap.NoLimit := e0.mod.nolimit.keeps fun b o e => (e0.bs b o e).1
  refine codeAny_call_function hr.depth (KX _ _ lk) rfl S.co S.gen rfl (PySem.W.codeRec_of KX hcd) (hb _ _ _ _ (wpAny_newFunctionEnv_cells S.kind hkind fun env he s1 y => ?_))
  subst he
  obtain ⟨t, ht, hq⟩ := hbody cdv A outer s H vs Q E p (hr.deeper _) hsp
  refine ⟨lim.keeps y.toInCall.keep, codeAny_func (wpAny_mono (ht.run [] s1 (L2.start N vs) H _ (inv_startH S pin e0 (len _ _ _ _ hsp) r y) hq) (fun fl s' sp => ?_) fun _ _ z => z)⟩
  cases fl with
  | ret u => obtain ⟨v, _, H', J, rv, q⟩ := sp; exact ⟨v, H', J.os, J.bare, J.base, J.hok, rv, q⟩
  | next => obtain ⟨_, H', J, q⟩ := sp; exact ⟨V.non, H', J.os, J.bare, J.base, J.hok, rfl, q⟩
  | brk => obtain ⟨_, _, _, q⟩ := sp; exact q.elim
  | cont => obtain ⟨_, _, _, q⟩ := sp; exact q.elim
end
/-- such a def with its promise -/
structure Ds (P : Program) (w : World) (K : PySem.W.Frag) (mg : Str → Option Value) (base : Heap) (x : Str) (ps : List Str) (k : Nat) (F : Fn) : Prop where
  ex : ∃ f fd, FnS P w K mg base k f fd ps (spz K F) ∧ mg x = some (.ref f) ∧ PySem.W.keepIn K (.ref f) = true ∧ Binds K fd ps []
theorem roomS {k : Nat} {X : Cx} {a : Addr} {pn : List (Addr × Obj)} (r : Room k X.A) : RoomH k (X.suite a pn).A := ⟨r.dp, r.un⟩
theorem pe_callZS {X : Cx} {a : Addr} {oe : Obj} {pn : List (Addr × Obj)} {x : Str} {ps : List Str} {k : Nat} {F : Fn} {q pos : Pos} {e : Expr} {es : List Expr} {t : TA} (D : Ds X.prog X.w X.K X.mg X.base x ps k F) (hr : Room k X.A)
    (ha : PA (X.suite a ((a, oe) :: pn)) (e :: es) t) (hg : Gl (X.suite a ((a, oe) :: pn)) x := by rfl) (hdb : (x == ("__debug__" : Str)) = false := by decide)
    (he : starEach (e :: es) X.env = (false, eval e X.env) :: starEach es X.env := by rfl) (hpl : (backTo pos (starEach es X.env)).any (·.1) = false := by rfl) :
    PE (X.suite a ((a, oe) :: pn)) (.Call (.Name x q) (e :: es) [] pos) (tCallS (spz X.K F) (fun _ => E0) t) := by
  obtain ⟨f, fd, FS, gm, kp, hb⟩ := D.ex
  refine ⟨fun pins s σ H Q I h => wpAny_Call_Name_kw (ld_glob I hg gm ?_ hdb)⟩
  refine PySem.W.callWith_K (h₀ := X.base) I.ok.mod.kin kp (thn (ha.run pos pins s σ H _ I h) fun us s1 ⟨vs, H1, I1, r, k1⟩ => ⟨I1.kIn, ?_⟩) he hpl
  have hl : us.length = ps.length := r.length.symm.trans (FS.len _ _ _ _ k1)
  have b := hb s1 us I1.kIn (by rw [List.append_nil]; exact hl)
  rw [List.append_nil] at b
  have P1 := I1.pin (a, oe) (List.mem_append_left _ List.mem_cons_self)
  have pin : PinOk X.stack H1 s1 (a, oe) := ⟨P1.1, P1.2.1, fun hm => (List.mem_cons.mp (I1.stkSub a hm)).elim P1.2.2.1 P1.2.2.2.1, P1.2.2.2.2⟩
  refine wpAny_call (codeAny_mono (FS.run _ X.stack s1 H1 us vs Q E0 (a, oe) (roomS hr) pin I1.env0 b r k1) fun res s' hq => ?_)
  cases res with
  | error e =>
    obtain ⟨_, _, _, _, _, _, _, _, _, _, _, _, z⟩ := hq
    exact z.elim
  | ok fl =>
    cases fl with
    | ret u => exact I1.after hq
    | next => exact hq.elim
    | brk => exact hq.elim
    | cont => exact hq.elim
end Z

/-! Z14: types of built-ins; list(..), tuple(..), a + b made new. -/
namespace Z
open PySem PySem.Spec PyProof.Rows L2
theorem kit_NoneType_int {K : PySem.W.Frag} : PySem.W.kitOne K (.type "NoneType") (.type "int") = some false := kit_ty (by decide +kernel)
theorem kit_NoneType_bool {K : PySem.W.Frag} : PySem.W.kitOne K (.type "NoneType") (.type "bool") = some false := kit_ty (by decide +kernel)
theorem kit_NoneType_str {K : PySem.W.Frag} : PySem.W.kitOne K (.type "NoneType") (.type "str") = some false := kit_ty (by decide +kernel)
theorem kit_NoneType_list {K : PySem.W.Frag} : PySem.W.kitOne K (.type "NoneType") (.type "list") = some false := kit_ty (by decide +kernel)
theorem kit_NoneType_tuple {K : PySem.W.Frag} : PySem.W.kitOne K (.type "NoneType") (.type "tuple") = some false := kit_ty (by decide +kernel)
theorem kit_bool_int {K : PySem.W.Frag} : PySem.W.kitOne K (.type "bool") (.type "int") = some true := kit_ty (by decide +kernel)
theorem kit_bool_bool {K : PySem.W.Frag} : PySem.W.kitOne K (.type "bool") (.type "bool") = some true := kit_ty (by decide +kernel)
theorem kit_bool_str {K : PySem.W.Frag} : PySem.W.kitOne K (.type "bool") (.type "str") = some false := kit_ty (by decide +kernel)
theorem kit_bool_list {K : PySem.W.Frag} : PySem.W.kitOne K (.type "bool") (.type "list") = some false := kit_ty (by decide +kernel)
theorem kit_bool_tuple {K : PySem.W.Frag} : PySem.W.kitOne K (.type "bool") (.type "tuple") = some false := kit_ty (by decide +kernel)
theorem kit_int_int {K : PySem.W.Frag} : PySem.W.kitOne K (.type "int") (.type "int") = some true := kit_ty (by decide +kernel)
theorem kit_int_bool {K : PySem.W.Frag} : PySem.W.kitOne K (.type "int") (.type "bool") = some false := kit_ty (by decide +kernel)
theorem kit_int_str {K : PySem.W.Frag} : PySem.W.kitOne K (.type "int") (.type "str") = some false := kit_ty (by decide +kernel)
theorem kit_int_list {K : PySem.W.Frag} : PySem.W.kitOne K (.type "int") (.type "list") = some false := kit_ty (by decide +kernel)
theorem kit_int_tuple {K : PySem.W.Frag} : PySem.W.kitOne K (.type "int") (.type "tuple") = some false := kit_ty (by decide +kernel)
theorem kit_str_int {K : PySem.W.Frag} : PySem.W.kitOne K (.type "str") (.type "int") = some false := kit_ty (by decide +kernel)
theorem kit_str_bool {K : PySem.W.Frag} : PySem.W.kitOne K (.type "str") (.type "bool") = some false := kit_ty (by decide +kernel)
theorem kit_str_str {K : PySem.W.Frag} : PySem.W.kitOne K (.type "str") (.type "str") = some true := kit_ty (by decide +kernel)
theorem kit_str_list {K : PySem.W.Frag} : PySem.W.kitOne K (.type "str") (.type "list") = some false := kit_ty (by decide +kernel)
theorem kit_str_tuple {K : PySem.W.Frag} : PySem.W.kitOne K (.type "str") (.type "tuple") = some false := kit_ty (by decide +kernel)
theorem kit_list_int {K : PySem.W.Frag} : PySem.W.kitOne K (.type "list") (.type "int") = some false := kit_ty (by decide +kernel)
theorem kit_list_bool {K : PySem.W.Frag} : PySem.W.kitOne K (.type "list") (.type "bool") = some false := kit_ty (by decide +kernel)
theorem kit_list_str {K : PySem.W.Frag} : PySem.W.kitOne K (.type "list") (.type "str") = some false := kit_ty (by decide +kernel)
theorem kit_list_list {K : PySem.W.Frag} : PySem.W.kitOne K (.type "list") (.type "list") = some true := kit_ty (by decide +kernel)
theorem kit_list_tuple {K : PySem.W.Frag} : PySem.W.kitOne K (.type "list") (.type "tuple") = some false := kit_ty (by decide +kernel)
theorem kit_tuple_int {K : PySem.W.Frag} : PySem.W.kitOne K (.type "tuple") (.type "int") = some false := kit_ty (by decide +kernel)
theorem kit_tuple_bool {K : PySem.W.Frag} : PySem.W.kitOne K (.type "tuple") (.type "bool") = some false := kit_ty (by decide +kernel)
theorem kit_tuple_str {K : PySem.W.Frag} : PySem.W.kitOne K (.type "tuple") (.type "str") = some false := kit_ty (by decide +kernel)
theorem kit_tuple_list {K : PySem.W.Frag} : PySem.W.kitOne K (.type "tuple") (.type "list") = some false := kit_ty (by decide +kernel)
theorem kit_tuple_tuple {K : PySem.W.Frag} : PySem.W.kitOne K (.type "tuple") (.type "tuple") = some true := kit_ty (by decide +kernel)
section
variable {X : Cx}
def zTuple (K : PySem.W.Frag) : List V → Hp → VK → Prop := fun xs H Q => ∃ p ys, xs = [.ref p] ∧ ((SqL K H p ys ∧ ∀ l, H l = none → Q (.ref l) (upd H l (.tup ys))) ∨ (SqT K H p ys ∧ Q (.ref p) H))
theorem call_zTuple : CallR X (.type "tuple") (zTuple X.K) := call_tuple_of
def zList (K : PySem.W.Frag) : List V → Hp → VK → Prop := fun xs H Q => ∃ p ys, xs = [.ref p] ∧ (SqL K H p ys ∨ SqT K H p ys) ∧ ∀ l, H l = none → Q (.ref l) (upd H l (.lst ys))
theorem call_zList : CallR X (.type "list") (zList X.K) := call_list_of
end
section
variable {B : Bx} {Γ : List Sl} {ta tb te : TE} {aa : TA} {as bs ds : List D} {d : D}
theorem rc_tupleL : RC B (zTuple B.K) [.lst as] (.tup as) := fun xs G H Q s r q => by
  cases r with
  | cons r1 r2 =>
    cases r2
    cases r1 with
    | lst h1 r1 => exact ⟨_, _, rfl, .inl ⟨same_l s h1, fun p hp => q _ _ _ (.new s hp) (.tup (.inl (.inl upd_same)) (r1.mono (Fw.new (o := .tup _) s hp).g))⟩⟩
theorem rc_tupleU : RC B (zTuple B.K) [.tup as] (.tup as) := fun xs G H Q s r q => by
  cases r with
  | cons r1 r2 =>
    cases r2
    cases r1 with
    | tup h1 r1 => exact ⟨_, _, rfl, .inr ⟨same_t s h1, q _ G H (.refl s) (.tup h1 r1)⟩⟩
theorem rc_listL : RC B (zList B.K) [.lst as] (.lst as) := fun xs G H Q s r q => by
  cases r with
  | cons r1 r2 =>
    cases r2
    cases r1 with
    | lst h1 r1 => exact ⟨_, _, rfl, .inl (same_l s h1), fun p hp => q _ _ _ (.new s hp) (.lst (.inl (.inl upd_same)) (r1.mono (Fw.new (o := .lst _) s hp).g))⟩
theorem rc_listU : RC B (zList B.K) [.tup as] (.lst as) := fun xs G H Q s r q => by
  cases r with
  | cons r1 r2 =>
    cases r2
    cases r1 with
    | tup h1 r1 => exact ⟨_, _, rfl, .inr (same_t s h1), fun p hp => q _ _ _ (.new s hp) (.lst (.inl (.inl upd_same)) (r1.mono (Fw.new (o := .lst _) s hp).g))⟩
/-- list(a), one's own -/
theorem evo_listL {K : PySem.W.Frag} (hK : K = B.K) (h : EvA B aa Γ [.lst as]) : EvO B (tCB (zList K) aa) Γ (.lst as) := fun σ G H Q S q => by
  subst hK
  refine h σ G H _ S fun vs G1 H1 f r => ?_
  cases r with
  | cons r1 r2 =>
    cases r2
    cases r1 with
    | lst h1 r1 => exact ⟨_, _, rfl, .inl (same_l f.e h1), fun p hp => q p (.lst _) G1 _ (f.trans (Fw.newO f.e hp)) (f.e.free hp) (f.h.free hp) upd_same ⟨_, rfl, r1⟩⟩
theorem evo_listU {K : PySem.W.Frag} (hK : K = B.K) (h : EvA B aa Γ [.tup as]) : EvO B (tCB (zList K) aa) Γ (.lst as) := fun σ G H Q S q => by
  subst hK
  refine h σ G H _ S fun vs G1 H1 f r => ?_
  cases r with
  | cons r1 r2 =>
    cases r2
    cases r1 with
    | tup h1 r1 => exact ⟨_, _, rfl, .inr (same_t f.e h1), fun p hp => q p (.lst _) G1 _ (f.trans (Fw.newO f.e hp)) (f.e.free hp) (f.h.free hp) upd_same ⟨_, rfl, r1⟩⟩
/-- a + b, one's own -/
theorem evo_addL {K : PySem.W.Frag} (hK : K = B.K) (ha : Ev B ta Γ (.lst as)) (hb : Ev B tb Γ (.lst bs)) (hl : as.length + bs.length ≤ 16777216) : EvO B (tOp (zAdd K) ta tb) Γ (.lst (as ++ bs)) := fun σ G H Q S q => by
  subst hK
  refine ha σ G H _ S fun x G1 H1 f1 r1 => hb σ G1 H1 _ (S.step f1) fun y G2 H2 f2 r2 => ?_
  have r1 := r1.mono f2.g
  cases r1 with
  | lst h1 r1 =>
    cases r2 with
    | lst h2 r2 =>
      have f := f1.trans f2
      exact .inr (.inr (.inl ⟨_, _, _, _, rfl, rfl, same_l f2.e h1, same_l f2.e h2, by rw [r1.length, r2.length]; exact line_le hl, fun p hp => q p (.lst _) G2 _ (f.trans (Fw.newO f.e hp)) (f.e.free hp) (f.h.free hp) upd_same ⟨_, rfl, r1.append r2⟩⟩))
end
end Z

/-! M78: the four tasks, in plain Lean. -/
namespace Z
open PySem PySem.Spec PyProof.Rows L2
theorem rep_one (n c : Nat) : rep n [c] = List.replicate n c := by
  induction n with
  | zero => rfl
  | succ n ih =>
    have : rep (n + 1) [c] = [c] ++ rep n [c] := by simp [rep, List.replicate_succ]
    rw [this, ih, List.replicate_succ]; rfl
abbrev kMir : List Nat := [109, 105, 114, 114, 111, 114, 101, 100]
abbrev kBal : List Nat := [98, 97, 108, 97, 110, 99, 101, 100]
abbrev kDou : List Nat := [100, 111, 117, 98, 108, 101, 100]
abbrev kNes : List Nat := [110, 101, 115, 116, 101, 100]
abbrev kTasks : List (List Nat) := [kMir, kBal, kDou, kNes]
def inT (t x : List Nat) : Bool :=
  if t = kMir then decide (x = x.reverse) else if t = kBal then decide (x.count 97 = x.count 98)
  else if t = kDou then decide (x = x.take (x.length / 2) ++ x.take (x.length / 2)) else decide (x = List.replicate (x.length / 2) 97 ++ List.replicate (x.length / 2) 98)
def misM (x : List Nat) (k : Nat) : Bool := !decide (x.getD k 0 = x.getD (x.length - 1 - k) 0)
def misD (x : List Nat) (k : Nat) : Bool := !decide (x.getD k 0 = x.getD (x.length / 2 + k) 0)
def lawT (t x : List Nat) : Bool :=
  if t = kMir then decide (((List.range x.length).filter (misM x)).length = 0) else if t = kBal then decide (2 * x.count 97 = x.length)
  else if t = kDou then decide (2 * (x.length / 2) = x.length) && decide (((List.range (x.length / 2)).filter (misD x)).length = 0) else decide (2 * x.count 97 = x.length) && !decide (98 ∈ x.take (x.count 97))
theorem count_ab : ∀ x : List Nat, (∀ c ∈ x, c = 97 ∨ c = 98) → x.count 97 + x.count 98 = x.length
  | [], _ => rfl
  | c :: r, h => by
    have ih := count_ab r fun d hd => h d (List.mem_cons_of_mem _ hd)
    rcases h c List.mem_cons_self with rfl | rfl <;> simp <;> omega
theorem filter_zero {f : Nat → Bool} {n : Nat} : ((List.range n).filter f).length = 0 ↔ ∀ k, k < n → f k = false := by
  rw [List.length_eq_zero_iff, List.filter_eq_nil_iff]
  simp
theorem mis_mir (x : List Nat) : ((List.range x.length).filter (misM x)).length = 0 ↔ x = x.reverse := by
  rw [filter_zero]
  unfold misM
  constructor
  · intro h
    apply List.ext_getElem (by simp)
    intro i h1 h2
    have := h i h1
    rw [Bool.not_eq_false', decide_eq_true_eq] at this
    rw [List.getElem_reverse]
    rw [List.getD_eq_getElem?_getD, List.getD_eq_getElem?_getD, List.getElem?_eq_getElem h1, List.getElem?_eq_getElem (by omega)] at this
    exact this
  · intro h k hk
    rw [Bool.not_eq_false', decide_eq_true_eq]
    rw [List.getD_eq_getElem?_getD, List.getD_eq_getElem?_getD]
    congr 1
    conv => lhs; rw [h]
    rw [List.getElem?_reverse hk]
theorem mis_dou (x : List Nat) : (2 * (x.length / 2) = x.length ∧ ((List.range (x.length / 2)).filter (misD x)).length = 0) ↔ x = x.take (x.length / 2) ++ x.take (x.length / 2) := by
  rw [filter_zero]
  unfold misD
  constructor
  · rintro ⟨h0, h⟩
    apply List.ext_getElem (by simp; omega)
    intro i h1 h2
    rw [List.getElem_append]
    split
    · rw [List.getElem_take]
    · rename_i hn
      rw [List.length_take, Nat.min_eq_left (by omega)] at hn
      have := h (i - x.length / 2) (by omega)
      rw [Bool.not_eq_false', decide_eq_true_eq] at this
      rw [List.getD_eq_getElem?_getD, List.getD_eq_getElem?_getD, List.getElem?_eq_getElem (by omega), List.getElem?_eq_getElem (by omega)] at this
      rw [List.getElem_take]
      simp only [Option.getD_some] at this
      have e1 : x.length / 2 + (i - x.length / 2) = i := by omega
      simp only [e1] at this
      rw [← this]
      congr 1
      simp; omega
  · intro h
    have hl := congrArg List.length h
    simp at hl
    refine ⟨by omega, fun k hk => ?_⟩
    rw [Bool.not_eq_false', decide_eq_true_eq]
    rw [List.getD_eq_getElem?_getD, List.getD_eq_getElem?_getD]
    congr 1
    have e1 : x[x.length / 2 + k]? = (x.take (x.length / 2) ++ x.take (x.length / 2))[x.length / 2 + k]? := congrArg (·[x.length / 2 + k]?) h
    rw [e1, List.getElem?_append_right (by simp; omega), List.getElem?_take]
    have e2 : x.length / 2 + k - (x.take (x.length / 2)).length = k := by simp; omega
    rw [e2, if_pos hk]
theorem repl_of : ∀ (x : List Nat) (c : Nat), (∀ d ∈ x, d = c) → x = List.replicate x.length c := fun x c h => List.eq_replicate_iff.mpr ⟨rfl, h⟩
theorem nes_iff (x : List Nat) (h : ∀ c ∈ x, c = 97 ∨ c = 98) : (2 * x.count 97 = x.length ∧ 98 ∉ x.take (x.count 97)) ↔ x = List.replicate (x.length / 2) 97 ++ List.replicate (x.length / 2) 98 := by
  have hc := count_ab x h
  constructor
  · rintro ⟨h1, h2⟩
    have e0 : x.count 97 = x.length / 2 := by omega
    rw [e0] at h2
    have hA : x.take (x.length / 2) = List.replicate (x.length / 2) 97 := by
      have := repl_of (x.take (x.length / 2)) 97 fun d hd => by
        rcases h d (List.mem_of_mem_take hd) with q | q
        · exact q
        · subst q; exact absurd hd h2
      rw [List.length_take, Nat.min_eq_left (by omega)] at this
      exact this
    have hB : x.drop (x.length / 2) = List.replicate (x.length / 2) 98 := by
      have hcd : (x.drop (x.length / 2)).count 97 = 0 := by
        have := congrArg (List.count 97) (List.take_append_drop (x.length / 2) x)
        rw [List.count_append, hA, List.count_replicate_self] at this
        omega
      have := repl_of (x.drop (x.length / 2)) 98 fun d hd => by
        rcases h d (List.mem_of_mem_drop hd) with q | q
        · subst q; exact absurd hd (List.count_eq_zero.mp hcd)
        · exact q
      rw [List.length_drop] at this
      rw [this]
      congr 1
      omega
    have := List.take_append_drop (x.length / 2) x
    rw [hA, hB] at this
    exact this.symm
  · intro e
    have hl := congrArg List.length e
    simp at hl
    have c1 := congrArg (List.count 97) e
    rw [List.count_append, List.count_replicate_self, List.count_replicate] at c1
    simp at c1
    refine ⟨by omega, ?_⟩
    rw [c1]
    have : x.take (x.length / 2) = List.replicate (x.length / 2) 97 := by
      generalize x.length / 2 = m at e
      rw [e, List.take_append_of_le_length (by simp), List.take_of_length_le (by simp)]
    rw [this]
    simp
theorem lawT_eq (t x : List Nat) (h : ∀ c ∈ x, c = 97 ∨ c = 98) : lawT t x = inT t x := by
  unfold lawT inT
  split
  · exact decide_eq_decide.mpr (mis_mir x)
  · split
    · have := count_ab x h
      exact decide_eq_decide.mpr (by omega)
    · split
      · rw [← Bool.decide_and]; exact decide_eq_decide.mpr (mis_dou x)
      · have := nes_iff x h
        rw [← decide_not, ← Bool.decide_and]
        exact decide_eq_decide.mpr this
/-! the families -/
def famA (t : List Nat) (i : Nat) : List Nat := if t = kMir then List.replicate i 97 ++ [98] else if t = kDou then List.replicate i 97 ++ [98] else List.replicate i 97
def famB (t : List Nat) (i : Nat) : List Nat := if t = kMir then List.replicate i 97 else if t = kDou then List.replicate i 97 ++ [98] else List.replicate i 98
theorem fam_ab (t : List Nat) (i j : Nat) : ∀ c ∈ famA t i ++ famB t j, c = 97 ∨ c = 98 := by
  intro c hc
  rw [List.mem_append] at hc
  unfold famA famB at hc
  split at hc
  · simp at hc; omega
  · split at hc <;> simp at hc <;> omega
theorem famA_len (t : List Nat) (i : Nat) : (famA t i).length ≤ i + 1 := by unfold famA; split <;> (try split) <;> simp
theorem famB_len (t : List Nat) (i : Nat) : (famB t i).length ≤ i + 1 := by unfold famB; split <;> (try split) <;> simp
theorem take_rep_snoc (i m : Nat) (l : List Nat) : i < m → (List.replicate i 97 ++ 98 :: l).take m = List.replicate i 97 ++ 98 :: l.take (m - i - 1) := by
  intro h
  rw [List.take_append]
  rw [List.take_of_length_le (by simp; omega), List.length_replicate]
  obtain ⟨k, hk⟩ : ∃ k, m - i = k + 1 := ⟨m - i - 1, by omega⟩
  rw [hk]; simp
theorem inT_fam (t : List Nat) (ht : t ∈ kTasks) (i j : Nat) : inT t (famA t i ++ famB t j) = decide (i = j) := by
  have cases4 : t = kMir ∨ t = kBal ∨ t = kDou ∨ t = kNes := by simpa using ht
  rcases cases4 with rfl | rfl | rfl | rfl
  · unfold inT famA famB
    rw [if_pos rfl, if_pos rfl, if_pos rfl]
    refine decide_eq_decide.mpr ⟨fun h => ?_, fun h => ?_⟩
    · have e : (List.replicate i 97 ++ [98] ++ List.replicate j 97).reverse = List.replicate j 97 ++ [98] ++ List.replicate i 97 := by simp
      rw [e] at h
      rcases Nat.lt_trichotomy i j with hl | hl | hl
      · have := congrArg (·[i]?) h
        simp [List.getElem?_append, List.getElem?_replicate, hl] at this
      · exact hl
      · have := congrArg (·[j]?) h
        simp [List.getElem?_append, List.getElem?_replicate, hl] at this
    · subst h; simp
  · unfold inT famA famB
    rw [if_neg (by decide), if_pos rfl, if_neg (by decide), if_neg (by decide), if_neg (by decide), if_neg (by decide)]
    refine decide_eq_decide.mpr ?_
    rw [List.count_append, List.count_append, List.count_replicate_self, List.count_replicate_self, List.count_replicate, List.count_replicate]
    simp
  · unfold inT famA famB
    rw [if_neg (by decide), if_neg (by decide), if_pos rfl, if_neg (by decide), if_pos rfl, if_neg (by decide), if_pos rfl]
    refine decide_eq_decide.mpr ⟨fun h => ?_, fun h => ?_⟩
    · have hl := congrArg List.length h
      simp at hl
      obtain ⟨m, hm⟩ : ∃ m, m = (List.replicate i 97 ++ [98] ++ (List.replicate j 97 ++ [98])).length / 2 := ⟨_, rfl⟩
      have hm2 : 2 * m = i + j + 2 := by rw [hm]; simp; omega
      rw [← hm] at h
      have hc := congrArg (List.count 98) h
      simp [List.count_replicate] at hc
      have c1 : (List.take m (List.replicate i 97 ++ 98 :: (List.replicate j 97 ++ [98]))).count 98 = 1 := by omega
      rcases Nat.lt_or_ge i m with hi | hi
      · have e := take_rep_snoc i m (List.replicate j 97 ++ [98]) hi
        have e2 : List.replicate i 97 ++ [98] ++ (List.replicate j 97 ++ [98]) = List.replicate i 97 ++ 98 :: (List.replicate j 97 ++ [98]) := by simp
        rw [e2, e] at h
        have := congrArg (·[m + i]?) h
        rcases Nat.lt_trichotomy i j with hij | hij | hij
        · have q1 : (List.replicate i 97 ++ 98 :: (List.replicate j 97 ++ [98]))[m + i]? = some 97 := by
            rw [List.getElem?_append_right (by rw [List.length_replicate]; omega)]
            obtain ⟨k, hk⟩ : ∃ k, m + i - (List.replicate i 97 : List Nat).length = k + 1 := ⟨m - 1, by rw [List.length_replicate]; omega⟩
            rw [List.length_replicate] at hk
            rw [List.length_replicate, hk, List.getElem?_cons_succ, List.getElem?_append_left (by rw [List.length_replicate]; omega), List.getElem?_replicate, if_pos (by omega)]
          have q2 : (List.replicate i 97 ++ 98 :: List.take (m - i - 1) (List.replicate j 97 ++ [98]) ++ (List.replicate i 97 ++ 98 :: List.take (m - i - 1) (List.replicate j 97 ++ [98])))[m + i]? = some 98 := by
            have hlen : (List.replicate i 97 ++ 98 :: List.take (m - i - 1) (List.replicate j 97 ++ [98])).length = m := by simp; omega
            rw [List.getElem?_append_right (by omega), hlen, List.getElem?_append_right (by simp)]
            simp
          have this : (_ : List Nat)[m + i]? = (_ : List Nat)[m + i]? := this
          rw [q1, q2] at this
          cases this
        · exact hij
        · exfalso
          omega
      · exfalso
        have e2 : List.take m (List.replicate i 97 ++ 98 :: (List.replicate j 97 ++ [98])) = List.replicate m 97 := by
          rw [List.take_append_of_le_length (by simp; omega), List.take_replicate, Nat.min_eq_left hi]
        rw [e2] at c1
        simp [List.count_replicate] at c1
    · subst h
      have hm : (List.replicate i 97 ++ [98] ++ (List.replicate i 97 ++ [98])).length / 2 = i + 1 := by simp; omega
      rw [hm, List.take_append_of_le_length (by simp), List.take_of_length_le (by simp)]
  · unfold inT famA famB
    rw [if_neg (by decide), if_neg (by decide), if_neg (by decide), if_neg (by decide), if_neg (by decide), if_neg (by decide), if_neg (by decide)]
    refine decide_eq_decide.mpr ⟨fun h => ?_, fun h => ?_⟩
    · have c1 := congrArg (List.count 97) h
      have c2 := congrArg (List.count 98) h
      simp [List.count_replicate] at c1 c2
      omega
    · subst h
      have : (List.replicate i 97 ++ List.replicate i 98).length / 2 = i := by simp; omega
      rw [this]
end Z

namespace L
open PySem PySem.Spec PyProof.Rows L2 Z

def top (i : Nat) : Stmt := PySem.Challenge.pw_straightclock_k78_tasks.main.body.getD i (.Pass ⟨0, 0, 0, 0⟩)
abbrev s__law_digits : Stmt := top 14
abbrev N__law_digits : List Str := ["cell", "sizes", "row", "rest", "size", "seed", "k", "twice"]
theorem sc__law_digits : FnScope N__law_digits ["cell", "sizes"] (defScope s__law_digits) := ⟨rfl, rfl, rfl, by decide +kernel, rfl, by decide +kernel, by decide +kernel⟩
abbrev s__law_long_text : Stmt := top 15
abbrev N__law_long_text : List Str := ["letters", "cell", "size", "text", "seed", "k"]
theorem sc__law_long_text : FnScope N__law_long_text ["letters", "cell", "size"] (defScope s__law_long_text) := ⟨rfl, rfl, rfl, by decide +kernel, rfl, by decide +kernel, by decide +kernel⟩
abbrev s_task_names : Stmt := top 8
abbrev N_task_names : List Str := []
theorem sc_task_names : FnScope N_task_names [] (defScope s_task_names) := ⟨rfl, rfl, rfl, by decide +kernel, rfl, by decide +kernel, by decide +kernel⟩
abbrev s__law_cell : Stmt := top 13
abbrev N__law_cell : List Str := ["script", "k", "seed", "cell"]
theorem sc__law_cell : FnScope N__law_cell ["script", "k"] (defScope s__law_cell) := ⟨rfl, rfl, rfl, by decide +kernel, rfl, by decide +kernel, by decide +kernel⟩
abbrev s__law_member : Stmt := top 19
abbrev N__law_member : List Str := ["task", "row", "text", "letter"]
theorem sc__law_member : FnScope N__law_member ["task", "row", "text"] (defScope s__law_member) := ⟨rfl, rfl, rfl, by decide +kernel, rfl, by decide +kernel, by decide +kernel⟩
abbrev s_check_task : Stmt := top 9
abbrev N_check_task : List Str := ["task"]
theorem sc_check_task : FnScope N_check_task ["task"] (defScope s_check_task) := ⟨rfl, rfl, rfl, by decide +kernel, rfl, by decide +kernel, by decide +kernel⟩
abbrev s_check_text : Stmt := top 5
abbrev N_check_text : List Str := ["letters", "text", "index", "character"]
theorem sc_check_text : FnScope N_check_text ["letters", "text"] (defScope s_check_text) := ⟨rfl, rfl, rfl, by decide +kernel, rfl, by decide +kernel, by decide +kernel⟩
abbrev s_in_task : Stmt := top 10
abbrev N_in_task : List Str := ["task", "text", "half"]
theorem sc_in_task : FnScope N_in_task ["task", "text"] (defScope s_in_task) := ⟨rfl, rfl, rfl, by decide +kernel, rfl, by decide +kernel, by decide +kernel⟩
abbrev s__law_whole : Stmt := top 12
abbrev N__law_whole : List Str := ["value"]
theorem sc__law_whole : FnScope N__law_whole ["value"] (defScope s__law_whole) := ⟨rfl, rfl, rfl, by decide +kernel, rfl, by decide +kernel, by decide +kernel⟩
abbrev s__law_is_refused : Stmt := top 20
abbrev N__law_is_refused : List Str := ["task", "text", "due", "e"]
theorem sc__law_is_refused : FnScope N__law_is_refused ["task", "text", "due"] (defScope s__law_is_refused) := ⟨rfl, rfl, rfl, by decide +kernel, rfl, by decide +kernel, by decide +kernel⟩
abbrev s__law_task_names : Stmt := top 17
abbrev N__law_task_names : List Str := []
theorem sc__law_task_names : FnScope N__law_task_names [] (defScope s__law_task_names) := ⟨rfl, rfl, rfl, by decide +kernel, rfl, by decide +kernel, by decide +kernel⟩
abbrev s__law_texts : Stmt := top 16
abbrev N__law_texts : List Str := ["letters", "length", "texts", "k", "grown", "text", "letter"]
theorem sc__law_texts : FnScope N__law_texts ["letters", "length"] (defScope s__law_texts) := ⟨rfl, rfl, rfl, by decide +kernel, rfl, by decide +kernel, by decide +kernel⟩
abbrev s__law_in_task : Stmt := top 18
abbrev N__law_in_task : List Str := ["task", "text", "many", "half", "letter", "k"]
theorem sc__law_in_task : FnScope N__law_in_task ["task", "text"] (defScope s__law_in_task) := ⟨rfl, rfl, rfl, by decide +kernel, rfl, by decide +kernel, by decide +kernel⟩
abbrev s_law : Stmt := top 21
abbrev N_law : List Str := ["script", "row", "texts", "length", "k", "half", "task", "member", "place", "other", "text", "told", "strange", "letter"]
theorem sc_law : FnScope N_law ["script"] (defScope s_law) := ⟨rfl, rfl, rfl, by decide +kernel, rfl, by decide +kernel, by decide +kernel⟩
abbrev s_BadText : Stmt := inClass (top 2) 0
theorem sc_BadText : FnScope ["self", "index"] ["self", "index"] (defScope s_BadText) := ⟨rfl, rfl, rfl, by decide +kernel, rfl, by decide +kernel, by decide +kernel⟩
abbrev s_UnknownTask : Stmt := inClass (top 3) 0
theorem sc_UnknownTask : FnScope ["self", "task"] ["self", "task"] (defScope s_UnknownTask) := ⟨rfl, rfl, rfl, by decide +kernel, rfl, by decide +kernel, by decide +kernel⟩
structure Tx (K : PySem.W.Frag) (mg : Str → Option Value) : Prop where
  f_bool : mg "bool" = none
  f_enumerate : mg "enumerate" = none
  f_int : mg "int" = none
  f_isinstance : mg "isinstance" = none
  f_len : mg "len" = none
  f_max : mg "max" = none
  f_range : mg "range" = none
  f_tuple : mg "tuple" = none
  g_ClockError : mg "ClockError" = some (.ref (He.ga K "ClockError"))
  g_BadText : mg "BadText" = some (.ref (He.ga K "BadText"))
  g_UnknownTask : mg "UnknownTask" = some (.ref (He.ga K "UnknownTask"))
  x_BadText : OexC K (He.ga K "BadText")
  c_BadText : ExcC K (He.ga K "BadText")
  y_BadText : XfC K (He.ga K "BadText")
  i_BadText : PySem.W.findIn K (.ref (He.ga K "BadText")) "__init__" = some (some (.ref (He.ma K (He.ga K "BadText") "__init__"))) ∧ PySem.W.typeIn K (.ref (He.ma K (He.ga K "BadText") "__init__")) = some (.type "function")
  n_BadText_index : PySem.W.findIn K (.ref (He.ga K "BadText")) "index" = some none
  m_BadText_BadText : PySem.W.exmOne K (.ref (He.ga K "BadText")) (.ref (He.ga K "BadText")) = some true
  m_BadText_UnknownTask : PySem.W.exmOne K (.ref (He.ga K "BadText")) (.ref (He.ga K "UnknownTask")) = some false
  k_BadText_ClockError : PySem.W.kitOne K (.ref (He.ga K "BadText")) (.ref (He.ga K "ClockError")) = some true
  x_UnknownTask : OexC K (He.ga K "UnknownTask")
  c_UnknownTask : ExcC K (He.ga K "UnknownTask")
  y_UnknownTask : XfC K (He.ga K "UnknownTask")
  i_UnknownTask : PySem.W.findIn K (.ref (He.ga K "UnknownTask")) "__init__" = some (some (.ref (He.ma K (He.ga K "UnknownTask") "__init__"))) ∧ PySem.W.typeIn K (.ref (He.ma K (He.ga K "UnknownTask") "__init__")) = some (.type "function")
  n_UnknownTask_task : PySem.W.findIn K (.ref (He.ga K "UnknownTask")) "task" = some none
  m_UnknownTask_BadText : PySem.W.exmOne K (.ref (He.ga K "UnknownTask")) (.ref (He.ga K "BadText")) = some false
  m_UnknownTask_UnknownTask : PySem.W.exmOne K (.ref (He.ga K "UnknownTask")) (.ref (He.ga K "UnknownTask")) = some true
  k_UnknownTask_ClockError : PySem.W.kitOne K (.ref (He.ga K "UnknownTask")) (.ref (He.ga K "ClockError")) = some true
  g_TASKS : mg "TASKS" = some (.ref (He.ga K "TASKS"))
  t_TASKS : ∀ H, SqT K H (He.ga K "TASKS") ([.str (tx [109, 105, 114, 114, 111, 114, 101, 100]), .str (tx [98, 97, 108, 97, 110, 99, 101, 100]), .str (tx [100, 111, 117, 98, 108, 101, 100]), .str (tx [110, 101, 115, 116, 101, 100])] : List V)
def facts : List (PySem.W.Frag → Bool) := [fun K => freeB K "bool",
  fun K => freeB K "enumerate",
  fun K => freeB K "int",
  fun K => freeB K "isinstance",
  fun K => freeB K "len",
  fun K => freeB K "max",
  fun K => freeB K "range",
  fun K => freeB K "tuple",
  fun K => gloB K "ClockError",
  fun K => gloB K "BadText",
  fun K => gloB K "UnknownTask",
  fun K => oexB K (He.ga K "BadText"),
  fun K => excCB K (He.ga K "BadText"),
  fun K => xfB K (He.ga K "BadText"),
  fun K => initB K "BadText",
  fun K => decide (PySem.W.findIn K (.ref (He.ga K "BadText")) "index" = some none),
  fun K => decide (PySem.W.exmOne K (.ref (He.ga K "BadText")) (.ref (He.ga K "BadText")) = some true),
  fun K => decide (PySem.W.exmOne K (.ref (He.ga K "BadText")) (.ref (He.ga K "UnknownTask")) = some false),
  fun K => decide (PySem.W.kitOne K (.ref (He.ga K "BadText")) (.ref (He.ga K "ClockError")) = some true),
  fun K => oexB K (He.ga K "UnknownTask"),
  fun K => excCB K (He.ga K "UnknownTask"),
  fun K => xfB K (He.ga K "UnknownTask"),
  fun K => initB K "UnknownTask",
  fun K => decide (PySem.W.findIn K (.ref (He.ga K "UnknownTask")) "task" = some none),
  fun K => decide (PySem.W.exmOne K (.ref (He.ga K "UnknownTask")) (.ref (He.ga K "BadText")) = some false),
  fun K => decide (PySem.W.exmOne K (.ref (He.ga K "UnknownTask")) (.ref (He.ga K "UnknownTask")) = some true),
  fun K => decide (PySem.W.kitOne K (.ref (He.ga K "UnknownTask")) (.ref (He.ga K "ClockError")) = some true),
  fun K => gloB K "TASKS",
  fun K => He.tupB K "TASKS" ([.str (tx [109, 105, 114, 114, 111, 114, 101, 100]), .str (tx [98, 97, 108, 97, 110, 99, 101, 100]), .str (tx [100, 111, 117, 98, 108, 101, 100]), .str (tx [110, 101, 115, 116, 101, 100])] : List He.Dv)]
theorem tx_of {K : PySem.W.Frag} {h : Heap} {mg : Str → Option Value} (X : K.In h) (G : h.Ns mainGlobals mg) (c : ∀ (i : Nat) (f : PySem.W.Frag → Bool), facts[i]? = some f → f K = true) : Tx K mg :=
  ⟨He.free_ok X G (c 0 _ rfl),
   He.free_ok X G (c 1 _ rfl),
   He.free_ok X G (c 2 _ rfl),
   He.free_ok X G (c 3 _ rfl),
   He.free_ok X G (c 4 _ rfl),
   He.free_ok X G (c 5 _ rfl),
   He.free_ok X G (c 6 _ rfl),
   He.free_ok X G (c 7 _ rfl),
   He.glo_ok X G (c 8 _ rfl),
   He.glo_ok X G (c 9 _ rfl),
   He.glo_ok X G (c 10 _ rfl),
   oexB_ok (c 11 _ rfl),
   excCB_ok (c 12 _ rfl),
   xfB_ok (c 13 _ rfl),
   initB_ok (c 14 _ rfl),
   of_decide_eq_true (c 15 _ rfl),
   of_decide_eq_true (c 16 _ rfl),
   of_decide_eq_true (c 17 _ rfl),
   of_decide_eq_true (c 18 _ rfl),
   oexB_ok (c 19 _ rfl),
   excCB_ok (c 20 _ rfl),
   xfB_ok (c 21 _ rfl),
   initB_ok (c 22 _ rfl),
   of_decide_eq_true (c 23 _ rfl),
   of_decide_eq_true (c 24 _ rfl),
   of_decide_eq_true (c 25 _ rfl),
   of_decide_eq_true (c 26 _ rfl),
   He.glo_ok X G (c 27 _ rfl),
   fun H => He.tupB_ok (c 28 _ rfl) H⟩
abbrev F__law_cell (K : PySem.W.Frag) : Fn := Fcell
theorem len__law_cell {K : PySem.W.Frag} (ds : List D) (R : Sl → Prop) (X : Xc → Prop) (h : F__law_cell K ds R X) : ds.length = 2 := fcell_len ds R X h
abbrev F__law_digits (K : PySem.W.Frag) : Fn := Fdigits
theorem len__law_digits {K : PySem.W.Frag} (ds : List D) (R : Sl → Prop) (X : Xc → Prop) (h : F__law_digits K ds R X) : ds.length = 2 := fdigits_len ds R X h
abbrev F_law (K : PySem.W.Frag) : Fn := Flaw
theorem len_law {K : PySem.W.Frag} (ds : List D) (R : Sl → Prop) (X : Xc → Prop) (h : F_law K ds R X) : ds.length = 1 := flaw_len ds R X h
end L

namespace L
open PySem PySem.Spec PyProof.Rows L2 Z
/-! the maths of this law -/
def ab (x : List Nat) : Prop := ∀ c ∈ x, c = 97 ∨ c = 98
theorem ab_app {x y : List Nat} (h : ab x) (k : ab y) : ab (x ++ y) := fun c hc => by
  rcases List.mem_append.mp hc with q | q
  · exact h c q
  · exact k c q
theorem ab_take {x : List Nat} (n : Nat) (h : ab x) : ab (x.take n) := fun c hc => h c (List.mem_of_mem_take hc)
theorem ab_drop {x : List Nat} (n : Nat) (h : ab x) : ab (x.drop n) := fun c hc => h c (List.mem_of_mem_drop hc)
theorem ab_rev {x : List Nat} (h : ab x) : ab x.reverse := fun c hc => h c (List.mem_reverse.mp hc)
/-- a letter of the law's long text -/
def longGo (ls : List Nat) : Int → Nat → Nat → List Nat
  | _, _, 0 => []
  | s, k, n + 1 => ls.getD (digSeed s k / 65537 % (ls.length : Nat)).toNat 0 :: longGo ls (digSeed s k) (k + 1) n
theorem longGo_len (ls : List Nat) : ∀ (n : Nat) (s : Int) (k : Nat), (longGo ls s k n).length = n
  | 0, _, _ => rfl
  | n + 1, s, k => congrArg (· + 1) (longGo_len ls n _ _)
theorem longGo_mem (ls : List Nat) (h : 0 < ls.length) : ∀ (n : Nat) (s : Int) (k : Nat), ∀ c ∈ longGo ls s k n, c ∈ ls
  | 0, _, _, c, hc => by simp [longGo] at hc
  | n + 1, s, k, c, hc => by
    unfold longGo at hc
    rcases List.mem_cons.mp hc with e | hc
    · have h1 : 0 ≤ digSeed s k / 65537 % (ls.length : Nat) := Int.emod_nonneg _ (by omega)
      have h2 : digSeed s k / 65537 % (ls.length : Nat) < (ls.length : Nat) := Int.emod_lt_of_pos _ (by omega)
      have h3 : (digSeed s k / 65537 % (ls.length : Nat)).toNat < ls.length := by omega
      rw [e, List.getD_eq_getElem?_getD, List.getElem?_eq_getElem h3]
      exact List.getElem_mem _
    · exact longGo_mem ls h n _ _ c hc
/-- all words of a length -/
def allW (ls : List Nat) : Nat → List (List Nat)
  | 0 => [[]]
  | n + 1 => (allW ls n).flatMap fun t => ls.map fun c => t ++ [c]
theorem allW_spec (ls : List Nat) : ∀ (n : Nat), ∀ t ∈ allW ls n, t.length = n ∧ ∀ c ∈ t, c ∈ ls
  | 0, t, ht => by simp [allW] at ht; subst ht; simp
  | n + 1, t, ht => by
    unfold allW at ht
    rw [List.mem_flatMap] at ht
    obtain ⟨u, hu, ht⟩ := ht
    rw [List.mem_map] at ht
    obtain ⟨c, hc, rfl⟩ := ht
    obtain ⟨h1, h2⟩ := allW_spec ls n u hu
    refine ⟨by simp [h1], fun d hd => ?_⟩
    rcases List.mem_append.mp hd with q | q
    · exact h2 d q
    · have : d = c := by simpa using q
      rw [this]; exact hc
theorem allW_len (ls : List Nat) : ∀ n : Nat, (allW ls n).length = ls.length ^ n
  | 0 => rfl
  | n + 1 => by
    unfold allW
    rw [List.length_flatMap]
    have e : ((allW ls n).map fun t => (ls.map fun c => t ++ [c]).length) = List.replicate (allW ls n).length ls.length := by
      rw [List.eq_replicate_iff]
      refine ⟨by simp, fun m hm => ?_⟩
      rw [List.mem_map] at hm
      obtain ⟨t, _, rfl⟩ := hm
      simp
    rw [e, List.sum_replicate_nat, allW_len ls n, Nat.pow_succ]
def flip (c : Nat) : Nat := if c = 98 then 97 else 98
def flipW (x : List Nat) : List Nat := x.map flip
theorem flipW_ab (x : List Nat) : ab (flipW x) := fun c hc => by
  unfold flipW flip at hc
  rw [List.mem_map] at hc
  obtain ⟨d, _, rfl⟩ := hc
  split <;> simp
def memb (t : List Nat) (n : Nat) (x : List Nat) : List Nat :=
  if t = kMir then x ++ x.reverse else if t = kBal then x ++ flipW x else if t = kDou then x ++ x else List.replicate n 97 ++ List.replicate n 98
theorem memb_ab (t : List Nat) (n : Nat) (x : List Nat) (h : ab x) : ab (memb t n x) := by
  unfold memb
  split
  · exact ab_app h (ab_rev h)
  · split
    · exact ab_app h (flipW_ab x)
    · split
      · exact ab_app h h
      · exact ab_app (fun c hc => .inl (List.eq_of_mem_replicate hc)) (fun c hc => .inr (List.eq_of_mem_replicate hc))
theorem memb_len (t : List Nat) (n : Nat) (x : List Nat) : (memb t n x).length ≤ 2 * x.length + 2 * n := by
  unfold memb flipW
  split
  · simp; omega
  · split
    · simp; omega
    · split
      · simp; omega
      · simp; omega
theorem flip_count : ∀ x : List Nat, ab x → (flipW x).count 97 = x.count 98 ∧ (flipW x).count 98 = x.count 97
  | [], _ => ⟨rfl, rfl⟩
  | c :: r, h => by
    obtain ⟨h1, h2⟩ := flip_count r fun d hd => h d (List.mem_cons_of_mem _ hd)
    have e : flipW (c :: r) = flip c :: flipW r := rfl
    rcases h c List.mem_cons_self with rfl | rfl
    · rw [e, show flip 97 = 98 from rfl]
      constructor <;> simp [h1, h2]
    · rw [e, show flip 98 = 97 from rfl]
      constructor <;> simp [h1, h2]
theorem inT_memb (t : List Nat) (n : Nat) (x : List Nat) (h : ab x) : inT t (memb t n x) = true := by
  unfold inT memb
  by_cases h1 : t = kMir
  · rw [if_pos h1, if_pos h1]; simp
  · rw [if_neg h1, if_neg h1]
    by_cases h2 : t = kBal
    · rw [if_pos h2, if_pos h2]
      obtain ⟨q1, q2⟩ := flip_count x h
      simp [q1, q2]; omega
    · rw [if_neg h2, if_neg h2]
      by_cases h3 : t = kDou
      · rw [if_pos h3, if_pos h3]
        have : (x ++ x).length / 2 = x.length := by simp; omega
        rw [this]; simp
      · rw [if_neg h3, if_neg h3]
        have : (List.replicate n 97 ++ List.replicate n 98 : List Nat).length / 2 = n := by simp; omega
        rw [this]; simp
/-- the first place of a character that is no letter -/
def bad1 (ls x : List Nat) : Nat := x.findIdx fun c => !decide (c ∈ ls)
/-! promises -/
def xUT (K : PySem.W.Frag) (t : List Nat) : Xc := ⟨He.ga K "UnknownTask", [("task", .str (tx t))]⟩
def xBT (K : PySem.W.Frag) (i : Nat) : Xc := ⟨He.ga K "BadText", [("index", .int i)]⟩
def F__law_task_names (K : PySem.W.Frag) : Fn := fun ds R _ => ds = [] ∧ R (.own (.lst (kTasks.map fun t => .str (tx t))))
theorem len__law_task_names {K : PySem.W.Frag} (ds : List D) (R : Sl → Prop) (X : Xc → Prop) (h : F__law_task_names K ds R X) : ds.length = 0 := by obtain ⟨rfl, _⟩ := h; rfl
def F_task_names (K : PySem.W.Frag) : Fn := fun ds R _ => ds = [] ∧ R (.dat (.tup (kTasks.map fun t => .str (tx t))))
theorem len_task_names {K : PySem.W.Frag} (ds : List D) (R : Sl → Prop) (X : Xc → Prop) (h : F_task_names K ds R X) : ds.length = 0 := by obtain ⟨rfl, _⟩ := h; rfl
def F_check_task (K : PySem.W.Frag) : Fn := fun ds R X => ∃ t, ds = [.str (tx t)] ∧ (t ∈ kTasks → R (.dat .non)) ∧ (t ∉ kTasks → X (xUT K t))
theorem len_check_task {K : PySem.W.Frag} (ds : List D) (R : Sl → Prop) (X : Xc → Prop) (h : F_check_task K ds R X) : ds.length = 1 := by obtain ⟨_, rfl, _⟩ := h; rfl
def F_check_text (K : PySem.W.Frag) : Fn := fun ds R X => ∃ ls x, ds = [.str (tx ls), .str (tx x)] ∧ ((∀ c ∈ x, c ∈ ls) → R (.dat .non)) ∧ ((¬ ∀ c ∈ x, c ∈ ls) → X (xBT K (bad1 ls x)))
theorem len_check_text {K : PySem.W.Frag} (ds : List D) (R : Sl → Prop) (X : Xc → Prop) (h : F_check_text K ds R X) : ds.length = 2 := by obtain ⟨_, _, rfl, _⟩ := h; rfl
def F__law_in_task (K : PySem.W.Frag) : Fn := fun ds R _ => ∃ t x, ds = [.str (tx t), .str (tx x)] ∧ x.length ≤ 1000000 ∧ R (.dat (.bl (lawT t x)))
theorem len__law_in_task {K : PySem.W.Frag} (ds : List D) (R : Sl → Prop) (X : Xc → Prop) (h : F__law_in_task K ds R X) : ds.length = 2 := by obtain ⟨_, _, rfl, _⟩ := h; rfl
def F_in_task (K : PySem.W.Frag) : Fn := fun ds R X => ∃ t x, ds = [.str (tx t), .str (tx x)] ∧ x.length ≤ 1000000 ∧ (t ∉ kTasks → X (xUT K t)) ∧
  (t ∈ kTasks → (¬ ∀ c ∈ x, c ∈ [97, 98]) → X (xBT K (bad1 [97, 98] x))) ∧ (t ∈ kTasks → (∀ c ∈ x, c ∈ [97, 98]) → R (.dat (.bl (inT t x))))
theorem len_in_task {K : PySem.W.Frag} (ds : List D) (R : Sl → Prop) (X : Xc → Prop) (h : F_in_task K ds R X) : ds.length = 2 := by obtain ⟨_, _, rfl, _⟩ := h; rfl
def F__law_whole (K : PySem.W.Frag) : Fn := fun ds R _ => ∃ i : Int, ds = [.int i] ∧ R (.dat (.bl true))
theorem len__law_whole {K : PySem.W.Frag} (ds : List D) (R : Sl → Prop) (X : Xc → Prop) (h : F__law_whole K ds R X) : ds.length = 1 := by obtain ⟨_, rfl, _⟩ := h; rfl
def F__law_long_text (K : PySem.W.Frag) : Fn := fun ds R _ => ∃ ls, ∃ c n : Int, ds = [.str (tx ls), .int c, .int n] ∧ 0 < ls.length ∧ ls.length ≤ 100 ∧ 0 ≤ n ∧ n ≤ 100000 ∧ R (.dat (.str (tx (longGo ls (c % 2147483629) 0 n.toNat))))
theorem len__law_long_text {K : PySem.W.Frag} (ds : List D) (R : Sl → Prop) (X : Xc → Prop) (h : F__law_long_text K ds R X) : ds.length = 3 := by obtain ⟨_, _, _, rfl, _⟩ := h; rfl
def F__law_texts (K : PySem.W.Frag) : Fn := fun ds R _ => ∃ ls, ∃ n : Int, ds = [.str (tx ls), .int n] ∧ 0 ≤ n ∧ n ≤ 6 ∧ ls.length ≤ 4 ∧ R (.dat (.lst ((allW ls n.toNat).map fun t => .str (tx t))))
theorem len__law_texts {K : PySem.W.Frag} (ds : List D) (R : Sl → Prop) (X : Xc → Prop) (h : F__law_texts K ds R X) : ds.length = 2 := by obtain ⟨_, _, rfl, _⟩ := h; rfl
def F__law_member (K : PySem.W.Frag) : Fn := fun ds R _ => ∃ t, ∃ n : Int, ∃ x, ds = [.str (tx t), .int n, .str (tx x)] ∧ 0 ≤ n ∧ n ≤ 10000 ∧ x.length ≤ 10000 ∧ R (.dat (.str (tx (memb t n.toNat x))))
theorem len__law_member {K : PySem.W.Frag} (ds : List D) (R : Sl → Prop) (X : Xc → Prop) (h : F__law_member K ds R X) : ds.length = 3 := by obtain ⟨_, _, _, rfl, _⟩ := h; rfl
def F__law_is_refused (K : PySem.W.Frag) : Fn := fun ds R _ => ∃ t x due, ds = [.str (tx t), .str (tx x), due] ∧ x.length ≤ 1000000 ∧
  ((t ∉ kTasks ∧ due = .non) ∨ (t ∈ kTasks ∧ (¬ ∀ c ∈ x, c ∈ [97, 98]) ∧ due = .int (bad1 [97, 98] x))) ∧ R (.dat (.bl true))
theorem len__law_is_refused {K : PySem.W.Frag} (ds : List D) (R : Sl → Prop) (X : Xc → Prop) (h : F__law_is_refused K ds R X) : ds.length = 3 := by obtain ⟨_, _, _, rfl, _⟩ := h; rfl
end L

namespace L
open PySem PySem.Spec PyProof.Rows L2 Z

section
variable {P : Program} {w : World} {K : PySem.W.Frag} {mg : Str → Option Value} {base : Heap}
def t__law_digits (K : PySem.W.Frag) (W : WX) : TS :=
  (tSeq (tAsg (tLst tNil) (gName 2))
  (tSeq (tAsg (tCB zInt (tCons (tVar 0) tNil)) (gName 3))
  (tSeq (tIfS (tTest (tOp zGe (tVar 3) (tOp zPow (tC (.int 10)) (tC (.int 18))))) (tSeq (tAsg (tOp zSub (tVar 3) (tOp zPow (tC (.int 10)) (tC (.int 18)))) (gName 3))
  (tSeq (tFor (iList K (tVar 1)) (gName 4) (tSeq (tDrop (tBM K "list" rAppend (tVar 2) (tCons (tOp zMod (tCB zInt (tCons (tVar 3) tNil)) (tVar 4)) tNil)))
  (tAsg (tOp zDiv (tCB zInt (tCons (tVar 3) tNil)) (tVar 4)) (gName 3))))
  (tRet (tVar 2)))) tNext)
  (tSeq (tAsg (tOp zMod (tCB zInt (tCons (tVar 3) tNil)) (tC (.int 2147483629))) (gName 5))
  (tSeq (tFor (iRng1 (tCons (tCB (zLen K) (tCons (tVar 1) tNil)) tNil)) (gName 6) (tSeq (tAsg (tOp zMod (tCB zInt (tCons (tOp (zAdd K) (tOp (zAdd K) (tOp zMul (tVar 5) (tC (.int 48271))) (tOp zMul (tC (.int 974711)) (tVar 6))) (tC (.int 12345))) tNil)) (tC (.int 2147483647))) (gName 5))
  (tSeq (tAsg (tOp zMod (tCB zInt (tCons (tOp zMul (tVar 5) (tOp (zAdd K) (tOp zDiv (tVar 5) (tC (.int 65537))) (tC (.int 3)))) tNil)) (tC (.int 2147483629))) (gName 7))
  (tDrop (tBM K "list" rAppend (tVar 2) (tCons (tOp zMod (tOp zDiv (tVar 7) (tC (.int 19))) (tOp (zIx K) (tVar 1) (tVar 6))) tNil))))))
  (tRet (tVar 2)))))))
theorem ps__law_digits (T : Tx K mg)  {f : Addr} {cdv : Value} {A : Around} {outer : List Env} {s : Shared} {H : Hp} {E : XK} (hr : Room 0 (A.deeper (envOfC "_law_digits" (defScope s__law_digits) s.heap.objs.size f cdv))) :
    PSs (cxOf (L2.CX P w) P w K mg base N__law_digits "_law_digits" (defScope s__law_digits) f cdv A outer s H E) (defBody s__law_digits) (t__law_digits K (fun cls d _ H' => E cls d H')) := by
  have nd := sc__law_digits.nd
  have hu := hr.units
  have tk : Takes (cxOf (L2.CX P w) P w K mg base N__law_digits "_law_digits" (defScope s__law_digits) f cdv A outer s H E) (fun cls d _ H' => E cls d H') := takes_of rfl rfl rfl rfl
  exact (pss_cons (ps_set (i := 2) nd rfl (Or.inl rfl) (pe_lst pa_nil))
  (pss_cons (ps_set (i := 3) nd rfl (Or.inl rfl) (pe_callTy call_zInt (by rfl) T.f_int bt_int (pa_cons (pv 0) pa_nil)))
  (pss_cons (ps_if (pt_cmpR op_zGe (pv 3) (pe_op op_zPow pe_int pe_int) (nomark _)) (pss_cons (ps_set (i := 3) nd rfl (Or.inl rfl) (pe_op op_zSub (pv 3) (pe_op op_zPow pe_int pe_int)))
  (pss_cons (ps_for (passes_of rfl) rfl (pi_list (pv 1)) (pg_name (i := 4) nd rfl (Or.inl rfl)) (pss_cons (ps_expr (pe_bm PySem.F.plainAttrs_list PySem.F.slot_list_append PySem.F.type_list_append mt_append (pv 2) (pa_cons (pe_op op_zMod (pe_callTy call_zInt (by rfl) T.f_int bt_int (pa_cons (pv 3) pa_nil)) (pv 4)) pa_nil)))
  (pss_one (ps_set (i := 3) nd rfl (Or.inl rfl) (pe_op op_zDiv (pe_callTy call_zInt (by rfl) T.f_int bt_int (pa_cons (pv 3) pa_nil)) (pv 4))))))
  (pss_one (ps_ret (pv 2))))) pss_nil)
  (pss_cons (ps_set (i := 5) nd rfl (Or.inl rfl) (pe_op op_zMod (pe_callTy call_zInt (by rfl) T.f_int bt_int (pa_cons (pv 3) pa_nil)) pe_int))
  (pss_cons (ps_for (passes_of rfl) rfl (pi_range1 (by rfl) T.f_range (pa_cons (pe_callB call_zLen (by rfl) T.f_len bt_len (pa_cons (pv 1) pa_nil)) pa_nil)) (pg_name (i := 6) nd rfl (Or.inl rfl)) (pss_cons (ps_set (i := 5) nd rfl (Or.inl rfl) (pe_op op_zMod (pe_callTy call_zInt (by rfl) T.f_int bt_int (pa_cons (pe_op op_zAdd (pe_op op_zAdd (pe_op op_zMul (pv 5) pe_int) (pe_op op_zMul pe_int (pv 6))) pe_int) pa_nil)) pe_int))
  (pss_cons (ps_set (i := 7) nd rfl (Or.inl rfl) (pe_op op_zMod (pe_callTy call_zInt (by rfl) T.f_int bt_int (pa_cons (pe_op op_zMul (pv 5) (pe_op op_zAdd (pe_op op_zDiv (pv 5) pe_int) pe_int)) pa_nil)) pe_int))
  (pss_one (ps_expr (pe_bm PySem.F.plainAttrs_list PySem.F.slot_list_append PySem.F.type_list_append mt_append (pv 2) (pa_cons (pe_op op_zMod (pe_op op_zDiv (pv 7) pe_int) (pe_ix ix_z (pv 1) (pv 6) (fun _ _ => rfl))) pa_nil)))))))
  (pss_one (ps_ret (pv 2))))))))
def t__law_long_text (K : PySem.W.Frag) (W : WX) : TS :=
  (tSeq (tAsg (tC (.str (tx []))) (gName 3))
  (tSeq (tAsg (tOp zMod (tCB zInt (tCons (tVar 1) tNil)) (tC (.int 2147483629))) (gName 4))
  (tSeq (tFor (iRng1 (tCons (tVar 2) tNil)) (gName 5) (tSeq (tAsg (tOp zMod (tCB zInt (tCons (tOp (zAdd K) (tOp (zAdd K) (tOp zMul (tVar 4) (tC (.int 48271))) (tOp zMul (tC (.int 974711)) (tVar 5))) (tC (.int 12345))) tNil)) (tC (.int 2147483647))) (gName 4))
  (tAsg (tOp (zAdd K) (tVar 3) (tOp (zIx K) (tVar 0) (tOp zMod (tOp zDiv (tVar 4) (tC (.int 65537))) (tCB (zLen K) (tCons (tVar 0) tNil))))) (gName 3))))
  (tRet (tVar 3)))))
theorem ps__law_long_text (T : Tx K mg)  {f : Addr} {cdv : Value} {A : Around} {outer : List Env} {s : Shared} {H : Hp} {E : XK} (hr : Room 0 (A.deeper (envOfC "_law_long_text" (defScope s__law_long_text) s.heap.objs.size f cdv))) :
    PSs (cxOf (L2.CX P w) P w K mg base N__law_long_text "_law_long_text" (defScope s__law_long_text) f cdv A outer s H E) (defBody s__law_long_text) (t__law_long_text K (fun cls d _ H' => E cls d H')) := by
  have nd := sc__law_long_text.nd
  have hu := hr.units
  have tk : Takes (cxOf (L2.CX P w) P w K mg base N__law_long_text "_law_long_text" (defScope s__law_long_text) f cdv A outer s H E) (fun cls d _ H' => E cls d H') := takes_of rfl rfl rfl rfl
  exact (pss_cons (ps_set (i := 3) nd rfl (Or.inl rfl) pe_str)
  (pss_cons (ps_set (i := 4) nd rfl (Or.inl rfl) (pe_op op_zMod (pe_callTy call_zInt (by rfl) T.f_int bt_int (pa_cons (pv 1) pa_nil)) pe_int))
  (pss_cons (ps_for (passes_of rfl) rfl (pi_range1 (by rfl) T.f_range (pa_cons (pv 2) pa_nil)) (pg_name (i := 5) nd rfl (Or.inl rfl)) (pss_cons (ps_set (i := 4) nd rfl (Or.inl rfl) (pe_op op_zMod (pe_callTy call_zInt (by rfl) T.f_int bt_int (pa_cons (pe_op op_zAdd (pe_op op_zAdd (pe_op op_zMul (pv 4) pe_int) (pe_op op_zMul pe_int (pv 5))) pe_int) pa_nil)) pe_int))
  (pss_one (ps_set (i := 3) nd rfl (Or.inl rfl) (pe_op op_zAdd (pv 3) (pe_ix ix_z (pv 0) (pe_op op_zMod (pe_op op_zDiv (pv 4) pe_int) (pe_callB call_zLen (by rfl) T.f_len bt_len (pa_cons (pv 0) pa_nil))) (fun _ _ => rfl)))))))
  (pss_one (ps_ret (pv 3))))))
def t_task_names (K : PySem.W.Frag) (W : WX) : TS :=
  (tRet (tC (.ref (He.ga K (PySem.Str.ofString "TASKS")))))
theorem ps_task_names (T : Tx K mg)  {f : Addr} {cdv : Value} {A : Around} {outer : List Env} {s : Shared} {H : Hp} {E : XK} (hr : Room 0 (A.deeper (envOfC "task_names" (defScope s_task_names) s.heap.objs.size f cdv))) :
    PSs (cxOf (L2.CX P w) P w K mg base N_task_names "task_names" (defScope s_task_names) f cdv A outer s H E) (defBody s_task_names) (t_task_names K (fun cls d _ H' => E cls d H')) := by
  have nd := sc_task_names.nd
  have hu := hr.units
  have tk : Takes (cxOf (L2.CX P w) P w K mg base N_task_names "task_names" (defScope s_task_names) f cdv A outer s H E) (fun cls d _ H' => E cls d H') := takes_of rfl rfl rfl rfl
  exact (pss_one (ps_ret (pe_glob (by rfl) T.g_TASKS rfl)))
def t__law_cell (K : PySem.W.Frag) (W : WX) : TS :=
  (tSeq (tIfS (tTest (tOp zLt (tVar 1) (tCB (zLen K) (tCons (tVar 0) tNil)))) (tRet (tOp zMod (tCB zInt (tCons (tOp (zIx K) (tVar 0) (tVar 1)) tNil)) (tOp zMul (tOp zPow (tC (.int 10)) (tC (.int 60))) (tOp zPow (tC (.int 10)) (tC (.int 60)))))) tNext)
  (tSeq (tAsg (tC (.int 17)) (gName 2))
  (tSeq (tFor (iList K (tVar 0)) (gName 3) (tAsg (tOp zMod (tCB zInt (tCons (tOp (zAdd K) (tOp zMul (tVar 2) (tC (.int 31))) (tOp zMod (tCB zInt (tCons (tVar 3) tNil)) (tC (.int 1000003)))) tNil)) (tC (.int 1000003))) (gName 2)))
  (tRet (tOp zMod (tCB zInt (tCons (tOp zMul (tOp zMul (tOp (zAdd K) (tVar 2) (tC (.int 7))) (tOp (zAdd K) (tVar 1) (tC (.int 3)))) (tC (.int 69621))) tNil)) (tC (.int 2147483647)))))))
theorem ps__law_cell (T : Tx K mg)  {f : Addr} {cdv : Value} {A : Around} {outer : List Env} {s : Shared} {H : Hp} {E : XK} (hr : Room 0 (A.deeper (envOfC "_law_cell" (defScope s__law_cell) s.heap.objs.size f cdv))) :
    PSs (cxOf (L2.CX P w) P w K mg base N__law_cell "_law_cell" (defScope s__law_cell) f cdv A outer s H E) (defBody s__law_cell) (t__law_cell K (fun cls d _ H' => E cls d H')) := by
  have nd := sc__law_cell.nd
  have hu := hr.units
  have tk : Takes (cxOf (L2.CX P w) P w K mg base N__law_cell "_law_cell" (defScope s__law_cell) f cdv A outer s H E) (fun cls d _ H' => E cls d H') := takes_of rfl rfl rfl rfl
  exact (pss_cons (ps_if (pt_cmpR op_zLt (pv 1) (pe_callB call_zLen (by rfl) T.f_len bt_len (pa_cons (pv 0) pa_nil)) (nomark _)) (pss_one (ps_ret (pe_op op_zMod (pe_callTy call_zInt (by rfl) T.f_int bt_int (pa_cons (pe_ix ix_z (pv 0) (pv 1) (fun _ _ => rfl)) pa_nil)) (pe_op op_zMul (pe_op op_zPow pe_int pe_int) (pe_op op_zPow pe_int pe_int))))) pss_nil)
  (pss_cons (ps_set (i := 2) nd rfl (Or.inl rfl) pe_int)
  (pss_cons (ps_for (passes_of rfl) rfl (pi_list (pv 0)) (pg_name (i := 3) nd rfl (Or.inl rfl)) (pss_one (ps_set (i := 2) nd rfl (Or.inl rfl) (pe_op op_zMod (pe_callTy call_zInt (by rfl) T.f_int bt_int (pa_cons (pe_op op_zAdd (pe_op op_zMul (pv 2) pe_int) (pe_op op_zMod (pe_callTy call_zInt (by rfl) T.f_int bt_int (pa_cons (pv 3) pa_nil)) pe_int)) pa_nil)) pe_int))))
  (pss_one (ps_ret (pe_op op_zMod (pe_callTy call_zInt (by rfl) T.f_int bt_int (pa_cons (pe_op op_zMul (pe_op op_zMul (pe_op op_zAdd (pv 2) pe_int) (pe_op op_zAdd (pv 1) pe_int)) pe_int) pa_nil)) pe_int))))))
def t__law_member (K : PySem.W.Frag) (W : WX) : TS :=
  (tSeq (tIfS (tTest (tOp (zEq K) (tVar 0) (tC (.str (tx [109, 105, 114, 114, 111, 114, 101, 100]))))) (tRet (tOp (zAdd K) (tVar 2) (tUn (zRev K) (tVar 2)))) tNext)
  (tSeq (tIfS (tTest (tOp (zEq K) (tVar 0) (tC (.str (tx [98, 97, 108, 97, 110, 99, 101, 100]))))) (tRet (tOp (zAdd K) (tVar 2) (tBM K "str" (zJoin K) (tC (.str (tx []))) (tCons (tLc (iStr (tVar 2)) (gName 3) tYes (tOp (zIx K) (tLst (tCons (tC (.str (tx [98]))) (tCons (tC (.str (tx [97]))) tNil))) (tCB zInt (tCons (tOp (zEq K) (tVar 3) (tC (.str (tx [98])))) tNil))) [3]) tNil)))) tNext)
  (tSeq (tIfS (tTest (tOp (zEq K) (tVar 0) (tC (.str (tx [100, 111, 117, 98, 108, 101, 100]))))) (tRet (tOp (zAdd K) (tVar 2) (tVar 2))) tNext)
  (tRet (tOp (zAdd K) (tOp zMul (tC (.str (tx [97]))) (tVar 1)) (tOp zMul (tC (.str (tx [98]))) (tVar 1)))))))
theorem ps__law_member (T : Tx K mg)  {f : Addr} {cdv : Value} {A : Around} {outer : List Env} {s : Shared} {H : Hp} {E : XK} (hr : Room 0 (A.deeper (envOfC "_law_member" (defScope s__law_member) s.heap.objs.size f cdv))) :
    PSs (cxOf (L2.CX P w) P w K mg base N__law_member "_law_member" (defScope s__law_member) f cdv A outer s H E) (defBody s__law_member) (t__law_member K (fun cls d _ H' => E cls d H')) := by
  have nd := sc__law_member.nd
  have hu := hr.units
  have tk : Takes (cxOf (L2.CX P w) P w K mg base N__law_member "_law_member" (defScope s__law_member) f cdv A outer s H E) (fun cls d _ H' => E cls d H') := takes_of rfl rfl rfl rfl
  exact (pss_cons (ps_if (pt_cmpR (op_zEq hu) (pv 0) pe_str (nomark _)) (pss_one (ps_ret (pe_op op_zAdd (pv 2) (pe_rev (pv 2))))) pss_nil)
  (pss_cons (ps_if (pt_cmpR (op_zEq hu) (pv 0) pe_str (nomark _)) (pss_one (ps_ret (pe_op op_zAdd (pv 2) (pe_bm PySem.F.plainAttrs_str PySem.F.slot_str_join PySem.F.type_str_join mt_zJoin pe_str (pa_cons (pe_lc (own := [(PySem.Str.ofString "letter", 3)]) (by rfl) nd (pi_str (pv 2)) (blkOk_by (own := [(PySem.Str.ofString "letter", 3)]) (N := N__law_member) (by show blkC N__law_member (defScope s__law_member) _ [(PySem.Str.ofString "letter", 3)] = true; decide +kernel)) (fun _ _ _ _ _ => (pg_name (i := 3) nd rfl (Or.inl rfl))) (fun _ _ _ _ _ => pts_nil) (fun _ _ _ _ _ => (pe_ix ix_z (pe_lst (pa_cons pe_str (pa_cons pe_str pa_nil))) (pe_callTy call_zInt (by rfl) T.f_int bt_int (pa_cons (pe_cmpR (op_zEq hu) (pv 3) pe_str (nomark _)) pa_nil)) (fun _ _ => rfl)))) pa_nil))))) pss_nil)
  (pss_cons (ps_if (pt_cmpR (op_zEq hu) (pv 0) pe_str (nomark _)) (pss_one (ps_ret (pe_op op_zAdd (pv 2) (pv 2)))) pss_nil)
  (pss_one (ps_ret (pe_op op_zAdd (pe_op op_zMul pe_str (pv 1)) (pe_op op_zMul pe_str (pv 1))))))))
def t_check_task (K : PySem.W.Frag) (W : WX) : TS :=
  (tIfS (tTest (tOp (zIn K true) (tVar 0) (tC (.ref (He.ga K (PySem.Str.ofString "TASKS")))))) (tRaise (He.ga K (PySem.Str.ofString "UnknownTask")) (spX1 (He.ga K (PySem.Str.ofString "UnknownTask")) (PySem.Str.ofString "task")) (tCons (tVar 0) tNil) W) tNext)
theorem ps_check_task (T : Tx K mg) (D_UnknownTask : Dx P w K mg base "UnknownTask" (He.ga K "UnknownTask") ["self", "task"] (spX1 (He.ga K "UnknownTask") "task")) {f : Addr} {cdv : Value} {A : Around} {outer : List Env} {s : Shared} {H : Hp} {E : XK} (hr : Room 2 (A.deeper (envOfC "check_task" (defScope s_check_task) s.heap.objs.size f cdv))) :
    PSs (cxOf (L2.CX P w) P w K mg base N_check_task "check_task" (defScope s_check_task) f cdv A outer s H E) (defBody s_check_task) (t_check_task K (fun cls d _ H' => E cls d H')) := by
  have nd := sc_check_task.nd
  have hu := hr.units
  have tk : Takes (cxOf (L2.CX P w) P w K mg base N_check_task "check_task" (defScope s_check_task) f cdv A outer s H E) (fun cls d _ H' => E cls d H') := takes_of rfl rfl rfl rfl
  exact (pss_one (ps_if (pt_cmpR op_zNotIn (pv 0) (pe_glob (by rfl) T.g_TASKS rfl) (by rfl)) (pss_one (ps_raiseZ D_UnknownTask (by rfl) (hr.mono (by decide)) tk (pa_cons (pv 0) pa_nil))) pss_nil))
def t_check_text (K : PySem.W.Frag) (W : WX) : TS :=
  (tFor (iEnumZ K (tCons (tVar 1) tNil)) (gTup K 2 (gCons (gName 2) (gCons (gName 3) gNil))) (tIfS (tTest (tOp (zIn K true) (tVar 3) (tVar 0))) (tRaise (He.ga K (PySem.Str.ofString "BadText")) (spX1 (He.ga K (PySem.Str.ofString "BadText")) (PySem.Str.ofString "index")) (tCons (tVar 2) tNil) W) tNext))
theorem ps_check_text (T : Tx K mg) (D_BadText : Dx P w K mg base "BadText" (He.ga K "BadText") ["self", "index"] (spX1 (He.ga K "BadText") "index")) {f : Addr} {cdv : Value} {A : Around} {outer : List Env} {s : Shared} {H : Hp} {E : XK} (hr : Room 2 (A.deeper (envOfC "check_text" (defScope s_check_text) s.heap.objs.size f cdv))) :
    PSs (cxOf (L2.CX P w) P w K mg base N_check_text "check_text" (defScope s_check_text) f cdv A outer s H E) (defBody s_check_text) (t_check_text K (fun cls d _ H' => E cls d H')) := by
  have nd := sc_check_text.nd
  have hu := hr.units
  have tk : Takes (cxOf (L2.CX P w) P w K mg base N_check_text "check_text" (defScope s_check_text) f cdv A outer s H E) (fun cls d _ H' => E cls d H') := takes_of rfl rfl rfl rfl
  exact (pss_one (ps_for (passes_of rfl) rfl (pi_enumZ (by rfl) T.f_enumerate (pa_cons (pv 1) pa_nil)) (pg_tup (by rfl) (pgs_cons (pg_name (i := 2) nd rfl (Or.inl rfl)) (pgs_cons (pg_name (i := 3) nd rfl (Or.inl rfl)) pgs_nil))) (pss_one (ps_if (pt_cmpR op_zNotIn (pv 3) (pv 0) (by rfl)) (pss_one (ps_raiseZ D_BadText (by rfl) (hr.mono (by decide)) tk (pa_cons (pv 2) pa_nil))) pss_nil))))
def t_in_task (K : PySem.W.Frag) (W : WX) : TS :=
  (tSeq (tDrop (tCallS (spz K (F_check_task K)) (WE W) (tCons (tVar 0) tNil)))
  (tSeq (tDrop (tCallS (spz K (F_check_text K)) (WE W) (tCons (tC (.str (tx [97, 98]))) (tCons (tVar 1) tNil))))
  (tSeq (tAsg (tOp zDiv (tCB (zLen K) (tCons (tVar 1) tNil)) (tC (.int 2))) (gName 2))
  (tSeq (tIfS (tTest (tOp (zEq K) (tVar 0) (tC (.str (tx [109, 105, 114, 114, 111, 114, 101, 100]))))) (tRet (tOp (zEq K) (tVar 1) (tUn (zRev K) (tVar 1)))) tNext)
  (tSeq (tIfS (tTest (tOp (zEq K) (tVar 0) (tC (.str (tx [98, 97, 108, 97, 110, 99, 101, 100]))))) (tRet (tOp (zEq K) (tBM K "str" rCountT (tVar 1) (tCons (tC (.str (tx [97]))) tNil)) (tBM K "str" rCountT (tVar 1) (tCons (tC (.str (tx [98]))) tNil)))) tNext)
  (tSeq (tIfS (tTest (tOp (zEq K) (tVar 0) (tC (.str (tx [100, 111, 117, 98, 108, 101, 100]))))) (tRet (tOp (zEq K) (tVar 1) (tOp (zAdd K) (tSl (zSl K) (tVar 1) tNoPart (tPart (tVar 2))) (tSl (zSl K) (tVar 1) tNoPart (tPart (tVar 2)))))) tNext)
  (tRet (tOp (zEq K) (tVar 1) (tOp (zAdd K) (tOp zMul (tC (.str (tx [97]))) (tVar 2)) (tOp zMul (tC (.str (tx [98]))) (tVar 2)))))))))))
theorem ps_in_task (T : Tx K mg) (D_check_task : Df P w K mg base "check_task" ["task"] 3 (F_check_task K)) (D_check_text : Df P w K mg base "check_text" ["letters", "text"] 3 (F_check_text K)) {f : Addr} {cdv : Value} {A : Around} {outer : List Env} {s : Shared} {H : Hp} {E : XK} (hr : Room 3 (A.deeper (envOfC "in_task" (defScope s_in_task) s.heap.objs.size f cdv))) :
    PSs (cxOf (L2.CX P w) P w K mg base N_in_task "in_task" (defScope s_in_task) f cdv A outer s H E) (defBody s_in_task) (t_in_task K (fun cls d _ H' => E cls d H')) := by
  have nd := sc_in_task.nd
  have hu := hr.units
  have tk : Takes (cxOf (L2.CX P w) P w K mg base N_in_task "in_task" (defScope s_in_task) f cdv A outer s H E) (fun cls d _ H' => E cls d H') := takes_of rfl rfl rfl rfl
  exact (pss_cons (ps_expr (pe_callZ D_check_task (hr.mono (by decide)) tk (pa_cons (pv 0) pa_nil)))
  (pss_cons (ps_expr (pe_callZ D_check_text (hr.mono (by decide)) tk (pa_cons pe_str (pa_cons (pv 1) pa_nil))))
  (pss_cons (ps_set (i := 2) nd rfl (Or.inl rfl) (pe_op op_zDiv (pe_callB call_zLen (by rfl) T.f_len bt_len (pa_cons (pv 1) pa_nil)) pe_int))
  (pss_cons (ps_if (pt_cmpR (op_zEq hu) (pv 0) pe_str (nomark _)) (pss_one (ps_ret (pe_cmpR (op_zEq hu) (pv 1) (pe_rev (pv 1)) (nomark _)))) pss_nil)
  (pss_cons (ps_if (pt_cmpR (op_zEq hu) (pv 0) pe_str (nomark _)) (pss_one (ps_ret (pe_cmpR (op_zEq hu) (pe_bm PySem.F.plainAttrs_str PySem.F.slot_str_count PySem.F.type_str_count mt_zCountT (pv 1) (pa_cons pe_str pa_nil)) (pe_bm PySem.F.plainAttrs_str PySem.F.slot_str_count PySem.F.type_str_count mt_zCountT (pv 1) (pa_cons pe_str pa_nil)) (nomark _)))) pss_nil)
  (pss_cons (ps_if (pt_cmpR (op_zEq hu) (pv 0) pe_str (nomark _)) (pss_one (ps_ret (pe_cmpR (op_zEq hu) (pv 1) (pe_op op_zAdd (pe_slice sl_z (pv 1) po_none (po_some (pv 2))) (pe_slice sl_z (pv 1) po_none (po_some (pv 2)))) (nomark _)))) pss_nil)
  (pss_one (ps_ret (pe_cmpR (op_zEq hu) (pv 1) (pe_op op_zAdd (pe_op op_zMul pe_str (pv 2)) (pe_op op_zMul pe_str (pv 2))) (nomark _))))))))))
def t__law_whole (K : PySem.W.Frag) (W : WX) : TS :=
  (tRet (tAndV (tCB (zIsi K) (tCons (tVar 0) (tCons (tC (.ty "int")) tNil))) (tNotV (tCB (zIsi K) (tCons (tVar 0) (tCons (tC (.ty "bool")) tNil))))))
theorem ps__law_whole (T : Tx K mg)  {f : Addr} {cdv : Value} {A : Around} {outer : List Env} {s : Shared} {H : Hp} {E : XK} (hr : Room 0 (A.deeper (envOfC "_law_whole" (defScope s__law_whole) s.heap.objs.size f cdv))) :
    PSs (cxOf (L2.CX P w) P w K mg base N__law_whole "_law_whole" (defScope s__law_whole) f cdv A outer s H E) (defBody s__law_whole) (t__law_whole K (fun cls d _ H' => E cls d H')) := by
  have nd := sc__law_whole.nd
  have hu := hr.units
  have tk : Takes (cxOf (L2.CX P w) P w K mg base N__law_whole "_law_whole" (defScope s__law_whole) f cdv A outer s H E) (fun cls d _ H' => E cls d H') := takes_of rfl rfl rfl rfl
  exact (pss_one (ps_ret (pe_and (pe_callB call_zIsi (by rfl) T.f_isinstance bt_isinstance (pa_cons (pv 0) (pa_cons (pe_bltn (by rfl) T.f_int bt_int rfl) pa_nil))) (pe_one (pe_not (pe_callB call_zIsi (by rfl) T.f_isinstance bt_isinstance (pa_cons (pv 0) (pa_cons (pe_bltn (by rfl) T.f_bool bt_bool rfl) pa_nil))))))))
def t__law_is_refused (K : PySem.W.Frag) (W : WX) : TS :=
  (tSeq (tTryMany K [(.ref (He.ga K (PySem.Str.ofString "UnknownTask")), some 3, fun a cls d => (tRet (tAndV (tOp zIsN (tVar 2) (tC .non)) (tAndV (tCB (rIsG K a cls d) (tCons (tVar 3) (tCons (tC (.ref (He.ga K (PySem.Str.ofString "ClockError")))) tNil))) (tOp (zEq K) (tXg K a cls d (PySem.Str.ofString "task") (tVar 3)) (tVar 0)))))),
   (.ref (He.ga K (PySem.Str.ofString "BadText")), some 3, fun a cls d => (tRet (tAndV (tOp zNotN (tVar 2) (tC .non)) (tAndV (tCB (rIsG K a cls d) (tCons (tVar 3) (tCons (tC (.ref (He.ga K (PySem.Str.ofString "ClockError")))) tNil))) (tAndV (tCallS (spz K (F__law_whole K)) (fun _ => E0) (tCons (tXg K a cls d (PySem.Str.ofString "index") (tVar 3)) tNil)) (tOp (zEq K) (tXg K a cls d (PySem.Str.ofString "index") (tVar 3)) (tVar 2)))))))] W (fun W1 => (tDrop (tCallS (spz K (F_in_task K)) (WE W1) (tCons (tVar 0) (tCons (tVar 1) tNil))))))
  (tRet (tC (.bl false))))
theorem ps__law_is_refused (T : Tx K mg) (S__law_whole : Ds P w K mg base "_law_whole" ["value"] 1 (F__law_whole K)) (D_in_task : Df P w K mg base "in_task" ["task", "text"] 4 (F_in_task K)) {f : Addr} {cdv : Value} {A : Around} {outer : List Env} {s : Shared} {H : Hp} {E : XK} (hr : Room 4 (A.deeper (envOfC "_law_is_refused" (defScope s__law_is_refused) s.heap.objs.size f cdv))) :
    PSs (cxOf (L2.CX P w) P w K mg base N__law_is_refused "_law_is_refused" (defScope s__law_is_refused) f cdv A outer s H E) (defBody s__law_is_refused) (t__law_is_refused K (fun cls d _ H' => E cls d H')) := by
  have nd := sc__law_is_refused.nd
  have hu := hr.units
  have tk : Takes (cxOf (L2.CX P w) P w K mg base N__law_is_refused "_law_is_refused" (defScope s__law_is_refused) f cdv A outer s H E) (fun cls d _ H' => E cls d H') := takes_of rfl rfl rfl rfl
  exact (pss_cons (ps_try_manyA (l := [(.ref (He.ga K (PySem.Str.ofString "UnknownTask")), some 3, fun a cls d => (tRet (tAndV (tOp zIsN (tVar 2) (tC .non)) (tAndV (tCB (rIsG K a cls d) (tCons (tVar 3) (tCons (tC (.ref (He.ga K (PySem.Str.ofString "ClockError")))) tNil))) (tOp (zEq K) (tXg K a cls d (PySem.Str.ofString "task") (tVar 3)) (tVar 0)))))),
   (.ref (He.ga K (PySem.Str.ofString "BadText")), some 3, fun a cls d => (tRet (tAndV (tOp zNotN (tVar 2) (tC .non)) (tAndV (tCB (rIsG K a cls d) (tCons (tVar 3) (tCons (tC (.ref (He.ga K (PySem.Str.ofString "ClockError")))) tNil))) (tAndV (tCallS (spz K (F__law_whole K)) (fun _ => E0) (tCons (tXg K a cls d (PySem.Str.ofString "index") (tVar 3)) tNil)) (tOp (zEq K) (tXg K a cls d (PySem.Str.ofString "index") (tVar 3)) (tVar 2)))))))]) (tb := fun W1 => (tDrop (tCallS (spz K (F_in_task K)) (WE W1) (tCons (tVar 0) (tCons (tVar 1) tNil))))) rfl rfl tk (fun W1 pn xe tk1 po1 => (pss_one (ps_expr (pe_callZ D_in_task (hr.mono (by decide)) tk1 (pa_cons (pv 0) (pa_cons (pv 1) pa_nil)))))) (HdsA.named nd rfl rfl ⟨by rfl, by decide, .inl T.g_UnknownTask⟩ (fun a oe cls d pn hz hf => (pss_one (ps_ret (pe_and (pe_cmpR op_zIsN (pv 2) pe_non (nomark _)) (pe_and (pe_callB (call_isG hz hf) (by rfl) T.f_isinstance bt_isinstance (pa_cons (pv 3) (pa_cons (pe_glob (by rfl) T.g_ClockError rfl) pa_nil))) (pe_one (pe_cmpR (op_zEq hu) (pe_xg hz hf (pv 3)) (pv 0) (nomark _)))))))) (HdsA.named nd rfl rfl ⟨by rfl, by decide, .inl T.g_BadText⟩ (fun a oe cls d pn hz hf => (pss_one (ps_ret (pe_and (pe_cmpR op_zNotN (pv 2) pe_non (nomark _)) (pe_and (pe_callB (call_isG hz hf) (by rfl) T.f_isinstance bt_isinstance (pa_cons (pv 3) (pa_cons (pe_glob (by rfl) T.g_ClockError rfl) pa_nil))) (pe_and (pe_callZS S__law_whole (hr.mono (by decide)) (pa_cons (pe_xg hz hf (pv 3)) pa_nil)) (pe_one (pe_cmpR (op_zEq hu) (pe_xg hz hf (pv 3)) (pv 2) (nomark _))))))))) HdsA.nil)))
  (pss_one (ps_ret pe_bl)))
def t__law_task_names (K : PySem.W.Frag) (W : WX) : TS :=
  (tRet (tLst (tCons (tC (.str (tx [109, 105, 114, 114, 111, 114, 101, 100]))) (tCons (tC (.str (tx [98, 97, 108, 97, 110, 99, 101, 100]))) (tCons (tC (.str (tx [100, 111, 117, 98, 108, 101, 100]))) (tCons (tC (.str (tx [110, 101, 115, 116, 101, 100]))) tNil))))))
theorem ps__law_task_names (T : Tx K mg)  {f : Addr} {cdv : Value} {A : Around} {outer : List Env} {s : Shared} {H : Hp} {E : XK} (hr : Room 0 (A.deeper (envOfC "_law_task_names" (defScope s__law_task_names) s.heap.objs.size f cdv))) :
    PSs (cxOf (L2.CX P w) P w K mg base N__law_task_names "_law_task_names" (defScope s__law_task_names) f cdv A outer s H E) (defBody s__law_task_names) (t__law_task_names K (fun cls d _ H' => E cls d H')) := by
  have nd := sc__law_task_names.nd
  have hu := hr.units
  have tk : Takes (cxOf (L2.CX P w) P w K mg base N__law_task_names "_law_task_names" (defScope s__law_task_names) f cdv A outer s H E) (fun cls d _ H' => E cls d H') := takes_of rfl rfl rfl rfl
  exact (pss_one (ps_ret (pe_lst (pa_cons pe_str (pa_cons pe_str (pa_cons pe_str (pa_cons pe_str pa_nil)))))))
def t__law_texts (K : PySem.W.Frag) (W : WX) : TS :=
  (tSeq (tAsg (tLst (tCons (tC (.str (tx []))) tNil)) (gName 2))
  (tSeq (tFor (iRng1 (tCons (tVar 1) tNil)) (gName 3) (tSeq (tAsg (tLst tNil) (gName 4))
  (tSeq (tFor (iList K (tVar 2)) (gName 5) (tFor (iStr (tVar 0)) (gName 6) (tDrop (tBM K "list" rAppend (tVar 4) (tCons (tOp (zAdd K) (tVar 5) (tVar 6)) tNil)))))
  (tAsg (tVar 4) (gName 2)))))
  (tRet (tVar 2))))
theorem ps__law_texts (T : Tx K mg)  {f : Addr} {cdv : Value} {A : Around} {outer : List Env} {s : Shared} {H : Hp} {E : XK} (hr : Room 0 (A.deeper (envOfC "_law_texts" (defScope s__law_texts) s.heap.objs.size f cdv))) :
    PSs (cxOf (L2.CX P w) P w K mg base N__law_texts "_law_texts" (defScope s__law_texts) f cdv A outer s H E) (defBody s__law_texts) (t__law_texts K (fun cls d _ H' => E cls d H')) := by
  have nd := sc__law_texts.nd
  have hu := hr.units
  have tk : Takes (cxOf (L2.CX P w) P w K mg base N__law_texts "_law_texts" (defScope s__law_texts) f cdv A outer s H E) (fun cls d _ H' => E cls d H') := takes_of rfl rfl rfl rfl
  exact (pss_cons (ps_set (i := 2) nd rfl (Or.inl rfl) (pe_lst (pa_cons pe_str pa_nil)))
  (pss_cons (ps_for (passes_of rfl) rfl (pi_range1 (by rfl) T.f_range (pa_cons (pv 1) pa_nil)) (pg_name (i := 3) nd rfl (Or.inl rfl)) (pss_cons (ps_set (i := 4) nd rfl (Or.inl rfl) (pe_lst pa_nil))
  (pss_cons (ps_for (passes_of rfl) rfl (pi_list (pv 2)) (pg_name (i := 5) nd rfl (Or.inl rfl)) (pss_one (ps_for (passes_of rfl) rfl (pi_str (pv 0)) (pg_name (i := 6) nd rfl (Or.inl rfl)) (pss_one (ps_expr (pe_bm PySem.F.plainAttrs_list PySem.F.slot_list_append PySem.F.type_list_append mt_append (pv 4) (pa_cons (pe_op op_zAdd (pv 5) (pv 6)) pa_nil)))))))
  (pss_one (ps_set (i := 2) nd rfl (Or.inl rfl) (pv 4))))))
  (pss_one (ps_ret (pv 2)))))
def t__law_in_task (K : PySem.W.Frag) (W : WX) : TS :=
  (tSeq (tAsg (tCB (zLen K) (tCons (tLc (iStr (tVar 1)) (gName 4) (tTest (tOp (zEq K) (tVar 4) (tC (.str (tx [97]))))) (tVar 4) [4]) tNil)) (gName 2))
  (tSeq (tIfS (tTest (tOp (zEq K) (tVar 0) (tC (.str (tx [109, 105, 114, 114, 111, 114, 101, 100]))))) (tRet (tOp (zEq K) (tCB (zLen K) (tCons (tLc (iRng1 (tCons (tCB (zLen K) (tCons (tVar 1) tNil)) tNil)) (gName 5) (tTest (tOp (zNe K) (tOp (zIx K) (tVar 1) (tVar 5)) (tOp (zIx K) (tVar 1) (tOp zSub (tOp zSub (tCB (zLen K) (tCons (tVar 1) tNil)) (tC (.int 1))) (tVar 5))))) (tVar 5) [5]) tNil)) (tC (.int 0)))) tNext)
  (tSeq (tIfS (tTest (tOp (zEq K) (tVar 0) (tC (.str (tx [98, 97, 108, 97, 110, 99, 101, 100]))))) (tRet (tOp (zEq K) (tOp zMul (tC (.int 2)) (tVar 2)) (tCB (zLen K) (tCons (tVar 1) tNil)))) tNext)
  (tSeq (tAsg (tOp zDiv (tCB (zLen K) (tCons (tVar 1) tNil)) (tC (.int 2))) (gName 3))
  (tSeq (tIfS (tTest (tOp (zEq K) (tVar 0) (tC (.str (tx [100, 111, 117, 98, 108, 101, 100]))))) (tRet (tAndV (tOp (zEq K) (tOp zMul (tC (.int 2)) (tVar 3)) (tCB (zLen K) (tCons (tVar 1) tNil))) (tOp (zEq K) (tCB (zLen K) (tCons (tLc (iRng1 (tCons (tVar 3) tNil)) (gName 5) (tTest (tOp (zNe K) (tOp (zIx K) (tVar 1) (tVar 5)) (tOp (zIx K) (tVar 1) (tOp (zAdd K) (tVar 3) (tVar 5))))) (tVar 5) [5]) tNil)) (tC (.int 0))))) tNext)
  (tRet (tAndV (tOp (zEq K) (tOp zMul (tC (.int 2)) (tVar 2)) (tCB (zLen K) (tCons (tVar 1) tNil))) (tOp (zIn K true) (tC (.str (tx [98]))) (tSl (zSl K) (tVar 1) tNoPart (tPart (tVar 2)))))))))))
theorem ps__law_in_task (T : Tx K mg)  {f : Addr} {cdv : Value} {A : Around} {outer : List Env} {s : Shared} {H : Hp} {E : XK} (hr : Room 0 (A.deeper (envOfC "_law_in_task" (defScope s__law_in_task) s.heap.objs.size f cdv))) :
    PSs (cxOf (L2.CX P w) P w K mg base N__law_in_task "_law_in_task" (defScope s__law_in_task) f cdv A outer s H E) (defBody s__law_in_task) (t__law_in_task K (fun cls d _ H' => E cls d H')) := by
  have nd := sc__law_in_task.nd
  have hu := hr.units
  have tk : Takes (cxOf (L2.CX P w) P w K mg base N__law_in_task "_law_in_task" (defScope s__law_in_task) f cdv A outer s H E) (fun cls d _ H' => E cls d H') := takes_of rfl rfl rfl rfl
  exact (pss_cons (ps_set (i := 2) nd rfl (Or.inl rfl) (pe_callB call_zLen (by rfl) T.f_len bt_len (pa_cons (pe_lc (own := [(PySem.Str.ofString "letter", 4)]) (by rfl) nd (pi_str (pv 1)) (blkOk_by (own := [(PySem.Str.ofString "letter", 4)]) (N := N__law_in_task) (by show blkC N__law_in_task (defScope s__law_in_task) _ [(PySem.Str.ofString "letter", 4)] = true; decide +kernel)) (fun _ _ _ _ _ => (pg_name (i := 4) nd rfl (Or.inl rfl))) (fun _ _ _ _ _ => (pts_one (pt_cmpR (op_zEq hu) (pv 4) pe_str (nomark _)))) (fun _ _ _ _ _ => (pv 4))) pa_nil)))
  (pss_cons (ps_if (pt_cmpR (op_zEq hu) (pv 0) pe_str (nomark _)) (pss_one (ps_ret (pe_cmpR (op_zEq hu) (pe_callB call_zLen (by rfl) T.f_len bt_len (pa_cons (pe_lc (own := [(PySem.Str.ofString "k", 5)]) (by rfl) nd (pi_range1 (by rfl) T.f_range (pa_cons (pe_callB call_zLen (by rfl) T.f_len bt_len (pa_cons (pv 1) pa_nil)) pa_nil)) (blkOk_by (own := [(PySem.Str.ofString "k", 5)]) (N := N__law_in_task) (by show blkC N__law_in_task (defScope s__law_in_task) _ [(PySem.Str.ofString "k", 5)] = true; decide +kernel)) (fun _ _ _ _ _ => (pg_name (i := 5) nd rfl (Or.inl rfl))) (fun _ _ _ _ _ => (pts_one (pt_cmpR (op_zNe hu) (pe_ix ix_z (pv 1) (pv 5) (fun _ _ => rfl)) (pe_ix ix_z (pv 1) (pe_op op_zSub (pe_op op_zSub (pe_callB call_zLen (by rfl) T.f_len bt_len (pa_cons (pv 1) pa_nil)) pe_int) (pv 5)) (fun _ _ => rfl)) (nomark _)))) (fun _ _ _ _ _ => (pv 5))) pa_nil)) pe_int (nomark _)))) pss_nil)
  (pss_cons (ps_if (pt_cmpR (op_zEq hu) (pv 0) pe_str (nomark _)) (pss_one (ps_ret (pe_cmpR (op_zEq hu) (pe_op op_zMul pe_int (pv 2)) (pe_callB call_zLen (by rfl) T.f_len bt_len (pa_cons (pv 1) pa_nil)) (nomark _)))) pss_nil)
  (pss_cons (ps_set (i := 3) nd rfl (Or.inr rfl) (pe_op op_zDiv (pe_callB call_zLen (by rfl) T.f_len bt_len (pa_cons (pv 1) pa_nil)) pe_int))
  (pss_cons (ps_if (pt_cmpR (op_zEq hu) (pv 0) pe_str (nomark _)) (pss_one (ps_ret (pe_and (pe_cmpR (op_zEq hu) (pe_op op_zMul pe_int (pv 3)) (pe_callB call_zLen (by rfl) T.f_len bt_len (pa_cons (pv 1) pa_nil)) (nomark _)) (pe_one (pe_cmpR (op_zEq hu) (pe_callB call_zLen (by rfl) T.f_len bt_len (pa_cons (pe_lc (own := [(PySem.Str.ofString "k", 5)]) (by rfl) nd (pi_range1 (by rfl) T.f_range (pa_cons (pv 3) pa_nil)) (blkOk_by (own := [(PySem.Str.ofString "k", 5)]) (N := N__law_in_task) (by show blkC N__law_in_task (defScope s__law_in_task) _ [(PySem.Str.ofString "k", 5)] = true; decide +kernel)) (fun _ _ _ _ _ => (pg_name (i := 5) nd rfl (Or.inl rfl))) (fun _ _ _ _ _ => (pts_one (pt_cmpR (op_zNe hu) (pe_ix ix_z (pv 1) (pv 5) (fun _ _ => rfl)) (pe_ix ix_z (pv 1) (pe_op op_zAdd (pv 3) (pv 5)) (fun _ _ => rfl)) (nomark _)))) (fun _ _ _ _ _ => (pv 5))) pa_nil)) pe_int (nomark _)))))) pss_nil)
  (pss_one (ps_ret (pe_and (pe_cmpR (op_zEq hu) (pe_op op_zMul pe_int (pv 2)) (pe_callB call_zLen (by rfl) T.f_len bt_len (pa_cons (pv 1) pa_nil)) (nomark _)) (pe_one (pe_cmpR op_zNotIn pe_str (pe_slice sl_z (pv 1) po_none (po_some (pv 2))) (by rfl)))))))))))
def t_law (K : PySem.W.Frag) (W : WX) : TS :=
  (tSeq (tIfS (tTest (tOp (zNe K) (tCall (spz K (F_task_names K)) [] E0 tNil) (tCB (zTuple K) (tCons (tCall (spz K (F__law_task_names K)) [] E0 tNil) tNil)))) (tRet (tC (.bl false))) tNext)
  (tSeq (tAsg (tCallS (spz K (F__law_digits K)) (WE W) (tCons (tCallS (spz K (F__law_cell K)) (WE W) (tCons (tVar 0) (tCons (tC (.int 0)) tNil))) (tCons (tLst (tCons (tC (.int 4)) (tCons (tC (.int 201)) (tCons (tC (.int 13)) (tCons (tC (.int 13)) (tCons (tC (.int 400)) (tCons (tC (.int 4)) tNil))))))) tNil))) (gName 1))
  (tSeq (tAsg (tLst tNil) (gName 2))
  (tSeq (tFor (iRng1 (tCons (tC (.int 4)) tNil)) (gName 3) (tAsg (tOp (zAdd K) (tVar 2) (tCallS (spz K (F__law_texts K)) (WE W) (tCons (tC (.str (tx [97, 98]))) (tCons (tVar 3) tNil)))) (gName 2)))
  (tSeq (tFor (iRng1 (tCons (tC (.int 2)) tNil)) (gName 4) (tDrop (tBM K "list" rAppend (tVar 2) (tCons (tCallS (spz K (F__law_long_text K)) (WE W) (tCons (tC (.str (tx [97, 98]))) (tCons (tCallS (spz K (F__law_cell K)) (WE W) (tCons (tVar 0) (tCons (tOp (zAdd K) (tC (.int 1)) (tVar 4)) tNil))) (tCons (tOp (zIx K) (tVar 1) (tOp (zAdd K) (tC (.int 2)) (tVar 4))) tNil)))) tNil))))
  (tSeq (tAsg (tCallS (spz K (F__law_long_text K)) (WE W) (tCons (tC (.str (tx [97, 98]))) (tCons (tCallS (spz K (F__law_cell K)) (WE W) (tCons (tVar 0) (tCons (tC (.int 3)) tNil))) (tCons (tOp (zIx K) (tVar 1) (tC (.int 1))) tNil)))) (gName 5))
  (tSeq (tFor (iRng1 (tCons (tC (.int 2)) tNil)) (gName 4) (tSeq (tAsg (tOp (zIx K) (tCall (spz K (F__law_task_names K)) [] E0 tNil) (tOp zMod (tOp (zAdd K) (tOp (zIx K) (tVar 1) (tC (.int 0))) (tVar 4)) (tC (.int 4)))) (gName 6))
  (tSeq (tAsg (tCallS (spz K (F__law_member K)) (WE W) (tCons (tVar 6) (tCons (tOp (zIx K) (tVar 1) (tC (.int 1))) (tCons (tVar 5) tNil)))) (gName 7))
  (tSeq (tAsg (tOp zMod (tOp (zIx K) (tVar 1) (tC (.int 4))) (tCB zMax2 (tCons (tCB (zLen K) (tCons (tVar 7) tNil)) (tCons (tC (.int 1)) tNil)))) (gName 8))
  (tSeq (tAsg (tOp (zAdd K) (tOp (zAdd K) (tSl (zSl K) (tVar 7) tNoPart (tPart (tVar 8))) (tBM K "str" (zJoin K) (tC (.str (tx []))) (tCons (tLc (iStr (tSl (zSl K) (tVar 7) (tPart (tVar 8)) (tPart (tOp (zAdd K) (tVar 8) (tC (.int 1)))))) (gName 13) tYes (tOp (zIx K) (tLst (tCons (tC (.str (tx [98]))) (tCons (tC (.str (tx [97]))) tNil))) (tCB zInt (tCons (tOp (zEq K) (tVar 13) (tC (.str (tx [98])))) tNil))) [13]) tNil))) (tSl (zSl K) (tVar 7) (tPart (tOp (zAdd K) (tVar 8) (tC (.int 1)))) tNoPart)) (gName 9))
  (tSeq (tFor (iList K (tOp (zAdd K) (tVar 2) (tLst (tCons (tVar 7) (tCons (tVar 9) tNil))))) (gName 10) (tSeq (tAsg (tCallS (spz K (F_in_task K)) (WE W) (tCons (tVar 6) (tCons (tVar 10) tNil))) (gName 11))
  (tIfS (tOr (tNot (tB (tCB (zIsi K) (tCons (tVar 11) (tCons (tC (.ty "bool")) tNil))))) (tTest (tOp (zNe K) (tVar 11) (tCallS (spz K (F__law_in_task K)) (WE W) (tCons (tVar 6) (tCons (tVar 10) tNil)))))) (tRet (tC (.bl false))) tNext)))
  (tIfS (tOr (tNot (tB (tCallS (spz K (F_in_task K)) (WE W) (tCons (tVar 6) (tCons (tVar 7) tNil))))) (tNot (tB (tCallS (spz K (F__law_is_refused K)) (WE W) (tCons (tVar 6) (tCons (tOp (zAdd K) (tSl (zSl K) (tVar 5) tNoPart (tPart (tC (.int 9)))) (tC (.str (tx [99])))) (tCons (tCB (zLen K) (tCons (tSl (zSl K) (tVar 5) tNoPart (tPart (tC (.int 9)))) tNil)) tNil))))))) (tRet (tC (.bl false))) tNext)))))))
  (tSeq (tAsg (tOp (zIx K) (tLst (tCons (tC (.str (tx [77, 105, 114, 114, 111, 114, 101, 100]))) (tCons (tC (.str (tx [110, 101, 115, 116, 101, 100, 32]))) (tCons (tC (.str (tx []))) (tCons (tC (.str (tx [68, 111, 117, 98, 108, 101, 100]))) tNil))))) (tOp (zIx K) (tVar 1) (tC (.int 5)))) (gName 12))
  (tRet (tAndV (tCallS (spz K (F__law_is_refused K)) (WE W) (tCons (tVar 12) (tCons (tSl (zSl K) (tVar 5) tNoPart (tPart (tC (.int 9)))) (tCons (tC .non) tNil)))) (tCallS (spz K (F__law_is_refused K)) (WE W) (tCons (tVar 12) (tCons (tOp (zAdd K) (tSl (zSl K) (tVar 5) tNoPart (tPart (tC (.int 9)))) (tC (.str (tx [99])))) (tCons (tC .non) tNil))))))))))))))
theorem ps_law (T : Tx K mg) (D__law_cell : Df P w K mg base "_law_cell" ["script", "k"] 1 (F__law_cell K)) (D__law_digits : Df P w K mg base "_law_digits" ["cell", "sizes"] 1 (F__law_digits K)) (D__law_in_task : Df P w K mg base "_law_in_task" ["task", "text"] 1 (F__law_in_task K)) (D__law_is_refused : Df P w K mg base "_law_is_refused" ["task", "text", "due"] 5 (F__law_is_refused K)) (D__law_long_text : Df P w K mg base "_law_long_text" ["letters", "cell", "size"] 1 (F__law_long_text K)) (D__law_member : Df P w K mg base "_law_member" ["task", "row", "text"] 1 (F__law_member K)) (D__law_task_names : Df P w K mg base "_law_task_names" [] 1 (F__law_task_names K)) (D__law_texts : Df P w K mg base "_law_texts" ["letters", "length"] 1 (F__law_texts K)) (D_in_task : Df P w K mg base "in_task" ["task", "text"] 4 (F_in_task K)) (D_task_names : Df P w K mg base "task_names" [] 1 (F_task_names K)) {f : Addr} {cdv : Value} {A : Around} {outer : List Env} {s : Shared} {H : Hp} {E : XK} (hr : Room 5 (A.deeper (envOfC "law" (defScope s_law) s.heap.objs.size f cdv))) :
    PSs (cxOf (L2.CX P w) P w K mg base N_law "law" (defScope s_law) f cdv A outer s H E) (defBody s_law) (t_law K (fun cls d _ H' => E cls d H')) := by
  have nd := sc_law.nd
  have hu := hr.units
  have tk : Takes (cxOf (L2.CX P w) P w K mg base N_law "law" (defScope s_law) f cdv A outer s H E) (fun cls d _ H' => E cls d H') := takes_of rfl rfl rfl rfl
  exact (pss_cons (ps_if (pt_cmpR (op_zNe hu) (pe_callN0 D_task_names (hr.mono (by decide))) (pe_callTy call_zTuple (by rfl) T.f_tuple bt_tuple (pa_cons (pe_callN0 D__law_task_names (hr.mono (by decide))) pa_nil)) (nomark _)) (pss_one (ps_ret pe_bl)) pss_nil)
  (pss_cons (ps_set (i := 1) nd rfl (Or.inl rfl) (pe_callZ D__law_digits (hr.mono (by decide)) tk (pa_cons (pe_callZ D__law_cell (hr.mono (by decide)) tk (pa_cons (pv 0) (pa_cons pe_int pa_nil))) (pa_cons (pe_lst (pa_cons pe_int (pa_cons pe_int (pa_cons pe_int (pa_cons pe_int (pa_cons pe_int (pa_cons pe_int pa_nil))))))) pa_nil))))
  (pss_cons (ps_set (i := 2) nd rfl (Or.inl rfl) (pe_lst pa_nil))
  (pss_cons (ps_for (passes_of rfl) rfl (pi_range1 (by rfl) T.f_range (pa_cons pe_int pa_nil)) (pg_name (i := 3) nd rfl (Or.inl rfl)) (pss_one (ps_set (i := 2) nd rfl (Or.inl rfl) (pe_op op_zAdd (pv 2) (pe_callZ D__law_texts (hr.mono (by decide)) tk (pa_cons pe_str (pa_cons (pv 3) pa_nil)))))))
  (pss_cons (ps_for (passes_of rfl) rfl (pi_range1 (by rfl) T.f_range (pa_cons pe_int pa_nil)) (pg_name (i := 4) nd rfl (Or.inl rfl)) (pss_one (ps_expr (pe_bm PySem.F.plainAttrs_list PySem.F.slot_list_append PySem.F.type_list_append mt_append (pv 2) (pa_cons (pe_callZ D__law_long_text (hr.mono (by decide)) tk (pa_cons pe_str (pa_cons (pe_callZ D__law_cell (hr.mono (by decide)) tk (pa_cons (pv 0) (pa_cons (pe_op op_zAdd pe_int (pv 4)) pa_nil))) (pa_cons (pe_ix ix_z (pv 1) (pe_op op_zAdd pe_int (pv 4)) (fun _ _ => rfl)) pa_nil)))) pa_nil)))))
  (pss_cons (ps_set (i := 5) nd rfl (Or.inl rfl) (pe_callZ D__law_long_text (hr.mono (by decide)) tk (pa_cons pe_str (pa_cons (pe_callZ D__law_cell (hr.mono (by decide)) tk (pa_cons (pv 0) (pa_cons pe_int pa_nil))) (pa_cons (pe_ix ix_z (pv 1) pe_int (fun _ _ => rfl)) pa_nil)))))
  (pss_cons (ps_for (passes_of rfl) rfl (pi_range1 (by rfl) T.f_range (pa_cons pe_int pa_nil)) (pg_name (i := 4) nd rfl (Or.inl rfl)) (pss_cons (ps_set (i := 6) nd rfl (Or.inl rfl) (pe_ix ix_z (pe_callN0 D__law_task_names (hr.mono (by decide))) (pe_op op_zMod (pe_op op_zAdd (pe_ix ix_z (pv 1) pe_int (fun _ _ => rfl)) (pv 4)) pe_int) (fun _ _ => rfl)))
  (pss_cons (ps_set (i := 7) nd rfl (Or.inl rfl) (pe_callZ D__law_member (hr.mono (by decide)) tk (pa_cons (pv 6) (pa_cons (pe_ix ix_z (pv 1) pe_int (fun _ _ => rfl)) (pa_cons (pv 5) pa_nil)))))
  (pss_cons (ps_set (i := 8) nd rfl (Or.inl rfl) (pe_op op_zMod (pe_ix ix_z (pv 1) pe_int (fun _ _ => rfl)) (pe_callB (call_zMax2 rfl) (by rfl) T.f_max bt_max (pa_cons (pe_callB call_zLen (by rfl) T.f_len bt_len (pa_cons (pv 7) pa_nil)) (pa_cons pe_int pa_nil)))))
  (pss_cons (ps_set (i := 9) nd rfl (Or.inl rfl) (pe_op op_zAdd (pe_op op_zAdd (pe_slice sl_z (pv 7) po_none (po_some (pv 8))) (pe_bm PySem.F.plainAttrs_str PySem.F.slot_str_join PySem.F.type_str_join mt_zJoin pe_str (pa_cons (pe_lc (own := [(PySem.Str.ofString "letter", 13)]) (by rfl) nd (pi_str (pe_slice sl_z (pv 7) (po_some (pv 8)) (po_some (pe_op op_zAdd (pv 8) pe_int)))) (blkOk_by (own := [(PySem.Str.ofString "letter", 13)]) (N := N_law) (by show blkC N_law (defScope s_law) _ [(PySem.Str.ofString "letter", 13)] = true; decide +kernel)) (fun _ _ _ _ _ => (pg_name (i := 13) nd rfl (Or.inl rfl))) (fun _ _ _ _ _ => pts_nil) (fun _ _ _ _ _ => (pe_ix ix_z (pe_lst (pa_cons pe_str (pa_cons pe_str pa_nil))) (pe_callTy call_zInt (by rfl) T.f_int bt_int (pa_cons (pe_cmpR (op_zEq hu) (pv 13) pe_str (nomark _)) pa_nil)) (fun _ _ => rfl)))) pa_nil))) (pe_slice sl_z (pv 7) (po_some (pe_op op_zAdd (pv 8) pe_int)) po_none)))
  (pss_cons (ps_for (passes_of rfl) rfl (pi_list (pe_op op_zAdd (pv 2) (pe_lst (pa_cons (pv 7) (pa_cons (pv 9) pa_nil))))) (pg_name (i := 10) nd rfl (Or.inl rfl)) (pss_cons (ps_set (i := 11) nd rfl (Or.inl rfl) (pe_callZ D_in_task (hr.mono (by decide)) tk (pa_cons (pv 6) (pa_cons (pv 10) pa_nil))))
  (pss_one (ps_if (PW.pt (pw_or (pt_not (pt_val (pe_callB call_zIsi (by rfl) T.f_isinstance bt_isinstance (pa_cons (pv 11) (pa_cons (pe_bltn (by rfl) T.f_bool bt_bool rfl) pa_nil))))) (pw_or1 (pt_cmpR (op_zNe hu) (pv 11) (pe_callZ D__law_in_task (hr.mono (by decide)) tk (pa_cons (pv 6) (pa_cons (pv 10) pa_nil))) (nomark _))))) (pss_one (ps_ret pe_bl)) pss_nil))))
  (pss_one (ps_if (PW.pt (pw_or (pt_not (pt_val (pe_callZ D_in_task (hr.mono (by decide)) tk (pa_cons (pv 6) (pa_cons (pv 7) pa_nil))))) (pw_or1 (pt_not (pt_val (pe_callZ D__law_is_refused (hr.mono (by decide)) tk (pa_cons (pv 6) (pa_cons (pe_op op_zAdd (pe_slice sl_z (pv 5) po_none (po_some pe_int)) pe_str) (pa_cons (pe_callB call_zLen (by rfl) T.f_len bt_len (pa_cons (pe_slice sl_z (pv 5) po_none (po_some pe_int)) pa_nil)) pa_nil))))))))) (pss_one (ps_ret pe_bl)) pss_nil))))))))
  (pss_cons (ps_set (i := 12) nd rfl (Or.inl rfl) (pe_ix ix_z (pe_lst (pa_cons pe_str (pa_cons pe_str (pa_cons pe_str (pa_cons pe_str pa_nil))))) (pe_ix ix_z (pv 1) pe_int (fun _ _ => rfl)) (fun _ _ => rfl)))
  (pss_one (ps_ret (pe_and (pe_callZ D__law_is_refused (hr.mono (by decide)) tk (pa_cons (pv 12) (pa_cons (pe_slice sl_z (pv 5) po_none (po_some pe_int)) (pa_cons pe_non pa_nil)))) (pe_one (pe_callZ D__law_is_refused (hr.mono (by decide)) tk (pa_cons (pv 12) (pa_cons (pe_op op_zAdd (pe_slice sl_z (pv 5) po_none (po_some pe_int)) pe_str) (pa_cons pe_non pa_nil))))))))))))))))
theorem psH__law_whole (T : Tx K mg) {p : Addr × Obj} {f : Addr} {cdv : Value} {A : Around} {outer : List Env} {s : Shared} {H : Hp} {E : XK} (hr : L2H.RoomH 0 (A.deeper (envOfC "_law_whole" (defScope s__law_whole) s.heap.objs.size f cdv))) :
    PSs (L2H.cxH (L2.CX P w) P w K mg base N__law_whole "_law_whole" (defScope s__law_whole) f cdv A outer s H E p) (defBody s__law_whole) (t__law_whole K (fun cls d _ H' => E cls d H')) := by
  have nd := sc__law_whole.nd
  have hu : (A.deeper (envOfC "_law_whole" (defScope s__law_whole) s.heap.objs.size f cdv)).units + 64 < cLine := by have := hr.un; omega
  exact (pss_one (ps_ret (pe_and (pe_callB call_zIsi (by rfl) T.f_isinstance bt_isinstance (pa_cons (pv 0) (pa_cons (pe_bltn (by rfl) T.f_int bt_int rfl) pa_nil))) (pe_one (pe_not (pe_callB call_zIsi (by rfl) T.f_isinstance bt_isinstance (pa_cons (pv 0) (pa_cons (pe_bltn (by rfl) T.f_bool bt_bool rfl) pa_nil))))))))
end
section
variable {mg : Str → Option Value}
theorem pure__law_digits {mg : Str → Option Value} (B : Bx) (T : Tx B.K mg) (W : WX) (ds : List D) (R : Sl → Prop) (X : Xc → Prop) (h : F__law_digits B.K ds R X) : Sv B W (t__law_digits B.K W) (ini N__law_digits ds) { nx := fun _ => R (.dat .non), rt := R, xc := fun x _ => X x } :=
  pure_digits B W ds R X h
theorem pure__law_cell {mg : Str → Option Value} (B : Bx) (T : Tx B.K mg) (W : WX) (ds : List D) (R : Sl → Prop) (X : Xc → Prop) (h : F__law_cell B.K ds R X) : Sv B W (t__law_cell B.K W) (ini N__law_cell ds) { nx := fun _ => R (.dat .non), rt := R, xc := fun x _ => X x } :=
  pure_cell B W ds R X h
end
end L

open PySem PySem.Spec PyProof.Rows L2 Z
local macro_rules | `(tactic| walk_at "at") => `(tactic| first | with_reducible exact SetAt.zero | ((with_reducible apply SetAt.succ); walk_at "at"))
local macro_rules | `(tactic| walk_at "sd") => `(tactic| first | (with_reducible assumption) | omega | (simp only [rep_length, List.length_append, List.length_cons, List.length_nil, List.length_map, List.length_replicate, List.length_range, List.length_take, List.length_reverse] <;> omega) | decide | exact Nat.le_of_ble_eq_true rfl)
local macro_rules | `(tactic| walk_at "cm") => `(tactic| first | (with_reducible assumption) | (refine cmul_s ?_ ?_ ?_ ?_ <;> first | omega | decide))
local macro_rules | `(tactic| walk_at "rv") => `(tactic| first
  | with_reducible exact rv_add | ((with_reducible apply rv_addT); walk_at "sd") | ((with_reducible apply rv_addL); walk_at "sd") | ((with_reducible apply rv_addU); walk_at "sd")
  | with_reducible exact rv_sub | ((with_reducible apply rv_mul); walk_at "cm") | ((with_reducible apply rv_mulT) <;> walk_at "sd")
  | ((with_reducible apply rv_div); first | assumption | exact cdiv_s (by walk_at "sd") (by walk_at "sd")) | ((with_reducible apply rv_mod); walk_at "sd") | ((with_reducible apply rv_pow); exact ⟨by decide, by decide, by decide⟩)
  | with_reducible exact rv_lt | with_reducible exact rv_le | with_reducible exact rv_gt | with_reducible exact rv_ge
  | with_reducible exact rv_eqI | with_reducible exact rv_eqT | with_reducible exact rv_eqB | with_reducible exact rv_neI | with_reducible exact rv_neT | with_reducible exact rv_neB
  | ((with_reducible apply rv_ixL); first | assumption | exact rfl) | ((with_reducible apply rv_ixU); first | assumption | exact rfl) | ((with_reducible apply rv_ixT); (focus (first | assumption | exact rfl)); walk_at "sd")
  | with_reducible exact rv_isN | with_reducible exact rv_isN' | with_reducible exact rv_notN'
  | with_reducible exact rv_inT | with_reducible exact rv_ninT | with_reducible exact rv_inTs | with_reducible exact rv_ninTs | with_reducible assumption)
local macro_rules | `(tactic| walk_at "rc") => `(tactic| first | with_reducible exact rc_int | with_reducible exact rc_intB | with_reducible exact rc_lenL | with_reducible exact rc_lenU | ((with_reducible apply rc_lenT); walk_at "sd") | with_reducible exact rc_min | with_reducible exact rc_tupleL | with_reducible exact rc_tupleU | with_reducible exact rc_listL | with_reducible exact rc_listU | with_reducible exact rc_max | ((with_reducible apply rc_isi); (focus (exact rfl)); first | with_reducible exact kitT | with_reducible exact kit_NoneType_int | with_reducible exact kit_NoneType_bool | with_reducible exact kit_NoneType_str | with_reducible exact kit_NoneType_list | with_reducible exact kit_NoneType_tuple | with_reducible exact kit_bool_int | with_reducible exact kit_bool_bool | with_reducible exact kit_bool_str | with_reducible exact kit_bool_list | with_reducible exact kit_bool_tuple | with_reducible exact kit_int_int | with_reducible exact kit_int_bool | with_reducible exact kit_int_str | with_reducible exact kit_int_list | with_reducible exact kit_int_tuple | with_reducible exact kit_str_int | with_reducible exact kit_str_bool | with_reducible exact kit_str_str | with_reducible exact kit_str_list | with_reducible exact kit_str_tuple | with_reducible exact kit_list_int | with_reducible exact kit_list_bool | with_reducible exact kit_list_str | with_reducible exact kit_list_list | with_reducible exact kit_list_tuple | with_reducible exact kit_tuple_int | with_reducible exact kit_tuple_bool | with_reducible exact kit_tuple_str | with_reducible exact kit_tuple_list | with_reducible exact kit_tuple_tuple | assumption | rfl) | with_reducible assumption)
local macro_rules | `(tactic| walk_at "rs") => `(tactic| first | with_reducible exact rs_slL | with_reducible exact rs_slU | ((with_reducible apply rs_slT); walk_at "sd"))
local macro_rules | `(tactic| walk_at "ru") => `(tactic| first | ((with_reducible apply ru_rev); walk_at "sd") | with_reducible exact ru_neg)
local macro_rules | `(tactic| walk_at "rm") => `(tactic| first | with_reducible exact rm_count | with_reducible assumption)
local macro_rules | `(tactic| walk_at "eo") => `(tactic| first
  | ((with_reducible apply evo_lstX); (focus (walk_at "ev")); exact Nat.le_of_ble_eq_true rfl)
  | ((with_reducible apply evo_callS); (focus (walk_at "ev")); (focus (walk_at "fn")))
  | ((with_reducible apply evo_addL rfl); (focus (walk_at "ev")); (focus (walk_at "ev")); walk_at "sd")
  | ((with_reducible apply evo_listL rfl); walk_at "ev") | ((with_reducible apply evo_listU rfl); walk_at "ev")
  | with_reducible assumption)
local macro_rules | `(tactic| walk_at "ev") => `(tactic| first
  | (with_reducible assumption)
  | ((with_reducible apply ev_var); exact rfl)
  | with_reducible exact ev_int | with_reducible exact ev_str | with_reducible exact ev_bl | with_reducible exact ev_non | with_reducible exact ev_ty | with_reducible exact ev_ref
  | with_reducible exact eva_nil
  | ((with_reducible apply eva_cons); (focus (walk_at "ev")); (focus (walk_at "ev")))
  | ((with_reducible apply ev_op); (focus (walk_at "ev")); (focus (walk_at "ev")); (focus (walk_at "rv")))
  | ((with_reducible apply ev_cb); (focus (walk_at "ev")); (focus (walk_at "rc")))
  | ((with_reducible apply evt_test); (focus (walk_at "ev")))
  | ((with_reducible apply evt_b); (focus (walk_at "ev")))
  | ((with_reducible apply evt_not); (focus (walk_at "ev")))
  | ((with_reducible apply evt_and); (focus (walk_at "ev")); (focus (intro _; walk_at "ev")))
  | ((with_reducible apply evt_or); (focus (walk_at "ev")); (focus (intro _; walk_at "ev")))
  | with_reducible exact evt_yes
  | ((with_reducible apply ev_and); (focus (walk_at "ev")); (focus (intro _; walk_at "ev")))
  | ((with_reducible apply ev_or); (focus (walk_at "ev")); (focus (intro _; walk_at "ev")))
  | ((with_reducible apply ev_not); (focus (walk_at "ev")))
  | ((with_reducible apply ev_callS); (focus (walk_at "ev")); (focus (walk_at "fn")))
  | ((with_reducible apply ev_call); (focus (walk_at "ev")); (focus (walk_at "fn")))
  | ((with_reducible apply ev_tupX); (focus (walk_at "ev")); exact Nat.le_of_ble_eq_true rfl)
  | with_reducible exact evp_none
  | ((with_reducible apply evp_some); (focus (walk_at "ev")))
  | ((with_reducible apply ev_sl); (focus (walk_at "ev")); (focus (walk_at "ev")); (focus (walk_at "ev")); (focus (walk_at "rs")))
  | ((with_reducible apply ev_un); (focus (walk_at "ev")); (focus (walk_at "ru")))
  | ((with_reducible apply ev_bmT); (focus (walk_at "ev")); (focus (walk_at "ev")); (focus (walk_at "rm")))
  | ((with_reducible apply ev_bmT0); (focus (walk_at "ev")); (focus (walk_at "rm")))
  | ((with_reducible apply evi_list); (focus (walk_at "ev")))
  | ((with_reducible apply evi_tup); (focus (walk_at "ev")))
  | ((with_reducible apply evi_str); (focus (walk_at "ev")))
  | ((with_reducible apply evi_rng1); (focus (walk_at "ev")); (focus (constructor <;> walk_at "sd")))
  | ((with_reducible apply evi_rng2); (focus (walk_at "ev")); (focus (constructor <;> walk_at "sd")); (focus (constructor <;> walk_at "sd")))
  | ((with_reducible apply Ev.of_own); walk_at "eo")
  | with_reducible assumption)
local macro_rules | `(tactic| walk_at "st") => `(tactic| repeat (first
  | (with_reducible apply sv_seq)
  | ((with_reducible apply sv_set); (focus (walk_at "ev")); (focus (walk_at "at")))
  | ((with_reducible apply sv_drop); (focus (walk_at "ev")))
  | (with_reducible apply sv_next)))
local macro_rules | `(tactic| walk_at "eq") => `(tactic| (with_reducible apply ev_eq); (focus (walk_at "ev")); rfl)
namespace L
open PySem PySem.Spec PyProof.Rows L2 Z
theorem pure__law_task_names {mg : Str → Option Value} (B : Bx) (T : Tx B.K mg) (W : WX) (ds : List D) (R : Sl → Prop) (X : Xc → Prop) (h : F__law_task_names B.K ds R X) : Sv B W (t__law_task_names B.K W) (ini N__law_task_names ds) { nx := fun _ => R (.dat .non), rt := R, xc := fun x _ => X x } := by
  obtain ⟨rfl, hR⟩ := h
  unfold t__law_task_names
  refine sv_retO (by walk_at "eo") ?_
  exact hR
theorem pure_check_task {mg : Str → Option Value} (B : Bx) (T : Tx B.K mg) (W : WX) (ds : List D) (R : Sl → Prop) (X : Xc → Prop) (h : F_check_task B.K ds R X) : Sv B W (t_check_task B.K W) (ini N_check_task ds) { nx := fun _ => R (.dat .non), rt := R, xc := fun x _ => X x } := by
  obtain ⟨t, rfl, hR, hX⟩ := h
  show Sv B W (t_check_task B.K W) [.dat (.str (tx t))] _
  unfold t_check_task
  have hT : Ev B (tC (.ref (He.ga B.K "TASKS"))) [.dat (.str (tx t))] (.tup (kTasks.map fun a => .str (tx a))) := ev_kt (T.t_TASKS) fun G => rps_txs kTasks
  refine sv_if (by walk_at "ev") (fun h => svr1 (by walk_at "ev") (hX (by simpa only [Bool.not_eq_true', decide_eq_false_iff_not] using h))) (fun h => sv_next (hR (by simpa only [Bool.not_eq_false', decide_eq_true_eq] using h)))
theorem pure__law_in_task {mg : Str → Option Value} (B : Bx) (T : Tx B.K mg) (W : WX) (ds : List D) (R : Sl → Prop) (X : Xc → Prop) (h : F__law_in_task B.K ds R X) : Sv B W (t__law_in_task B.K W) (ini N__law_in_task ds) { nx := fun _ => R (.dat .non), rt := R, xc := fun x _ => X x } := by
  obtain ⟨t, x, rfl, hl, hR⟩ := h
  show Sv B W (t__law_in_task B.K W) [.dat (.str (tx t)), .dat (.str (tx x)), .un, .un, .un, .un] _
  unfold t__law_in_task
  have hcl : x.count 97 ≤ x.length := List.count_le_length
  have hc : x.count 97 = (x.filter fun c => decide (c = 97)).length := List.count_eq_length_filter
  refine sv_seq (sv_set (d := .int (x.count 97 : Nat)) ?_ (by walk_at "at") ?_)
  · rw [hc]
    refine ev_lenLc rfl (fun c => D.str (tx [c])) x _ (fun c => .str (tx [c])) (by walk_at "ev") (Nat.le_of_ble_eq_true rfl) (by omega) fun c hc => ⟨evt_eq (by walk_at "ev") (decide_eq_decide.mpr (by simp)), fun _ => by walk_at "ev"⟩
  unfold lawT at hR
  have hat : ∀ k : Nat, k < x.length → atI x ((k : Nat) : Int) = some (x.getD k 0) := fun k hk => atI_ofNat (by rw [List.getD_eq_getElem?_getD, List.getElem?_eq_getElem hk]; rfl)
  refine sv_seq (sv_if (by walk_at "ev") (fun h => ?_) (fun h => ?_))
  · rw [if_pos (of_decide_eq_true h)] at hR
    refine sv_ret (d := .bl (decide ((((List.range x.length).filter (misM x)).length : Int) = 0))) (ev_op (ev_lenLc rfl (fun k : Nat => D.int k) (List.range x.length) (misM x) (fun k : Nat => D.int k) (evi_rng1 (n := (x.length : Nat)) (by walk_at "ev") (by omega)) (Nat.le_of_ble_eq_true rfl) (by rw [List.length_range]; omega) fun k hk => ?_) ev_int rv_eqI) ?_
    · have hk := List.mem_range.mp hk
      have h1 := hat k hk
      have h2 : atI x ((x.length : Nat) - 1 - (k : Nat) : Int) = some (x.getD (x.length - 1 - k) 0) := by
        have := hat (x.length - 1 - k) (by omega)
        rw [show ((x.length - 1 - k : Nat) : Int) = (x.length : Nat) - 1 - (k : Nat) by omega] at this
        exact this
      refine ⟨evt_eq (by walk_at "ev") ?_, fun _ => by walk_at "ev"⟩
      unfold misM
      rw [Bool.eq_iff_iff]; simp
    · rw [show decide ((((List.range x.length).filter (misM x)).length : Int) = 0) = decide (((List.range x.length).filter (misM x)).length = 0) from decide_eq_decide.mpr (by omega)]
      exact hR
  · rw [if_neg (of_decide_eq_false h)] at hR
    refine sv_next (sv_seq (sv_if (by walk_at "ev") (fun h => ?_) (fun h => ?_)))
    · rw [if_pos (of_decide_eq_true h)] at hR
      refine sv_ret (by walk_at "ev") ?_
      show R _
      rw [show decide ((2 : Int) * ((x.count 97 : Nat) : Int) = ((x.length : Nat) : Int)) = decide (2 * x.count 97 = x.length) from decide_eq_decide.mpr (by omega)]
      exact hR
    · rw [if_neg (of_decide_eq_false h)] at hR
      refine sv_next (sv_seq (sv_set (d := .int (x.length / 2 : Nat)) (by walk_at "eq") (by walk_at "at") ?_))
      refine (sv_seq (sv_if (by walk_at "ev") (fun h => ?_) (fun h => ?_)))
      · rw [if_pos (of_decide_eq_true h)] at hR
        refine sv_ret (d := .bl (decide ((2 : Int) * ((x.length / 2 : Nat) : Int) = ((x.length : Nat) : Int)) && decide ((((List.range (x.length / 2)).filter (misD x)).length : Int) = 0))) (ev_and (by walk_at "ev") fun _ => ev_op (ev_lenLc rfl (fun k : Nat => D.int k) (List.range (x.length / 2)) (misD x) (fun k : Nat => D.int k) (evi_rng1 (n := (x.length / 2 : Nat)) (by walk_at "ev") (by omega)) (Nat.le_of_ble_eq_true rfl) (by rw [List.length_range]; omega) fun k hk => ?_) ev_int rv_eqI) ?_
        · have hk := List.mem_range.mp hk
          have h1 := hat k (by omega)
          have h2 : atI x (((x.length / 2 : Nat) : Int) + ((k : Nat) : Int)) = some (x.getD (x.length / 2 + k) 0) := hat (x.length / 2 + k) (by omega)
          refine ⟨evt_eq (by walk_at "ev") ?_, fun _ => by walk_at "ev"⟩
          unfold misD
          rw [Bool.eq_iff_iff]; simp
        · show R _
          rw [show decide ((2 : Int) * ((x.length / 2 : Nat) : Int) = ((x.length : Nat) : Int)) = decide (2 * (x.length / 2) = x.length) from decide_eq_decide.mpr (by omega), show decide ((((List.range (x.length / 2)).filter (misD x)).length : Int) = 0) = decide (((List.range (x.length / 2)).filter (misD x)).length = 0) from decide_eq_decide.mpr (by omega)]
          exact hR
      · rw [if_neg (of_decide_eq_false h)] at hR
        refine sv_next (sv_ret (by walk_at "ev") ?_)
        show R _
        rw [cut_take, show decide ((2 : Int) * ((x.count 97 : Nat) : Int) = ((x.length : Nat) : Int)) = decide (2 * x.count 97 = x.length) from decide_eq_decide.mpr (by omega)]
        exact hR

theorem pure_task_names {mg : Str → Option Value} (B : Bx) (T : Tx B.K mg) (W : WX) (ds : List D) (R : Sl → Prop) (X : Xc → Prop) (h : F_task_names B.K ds R X) : Sv B W (t_task_names B.K W) (ini N_task_names ds) { nx := fun _ => R (.dat .non), rt := R, xc := fun x _ => X x } := by
  obtain ⟨rfl, hR⟩ := h
  unfold t_task_names
  have hT : Ev B (tC (.ref (He.ga B.K "TASKS"))) [] (.tup (kTasks.map fun a => .str (tx a))) := ev_kt (T.t_TASKS) fun G => rps_txs kTasks
  exact sv_ret hT hR
theorem pure__law_whole {mg : Str → Option Value} (B : Bx) (T : Tx B.K mg) (W : WX) (ds : List D) (R : Sl → Prop) (X : Xc → Prop) (h : F__law_whole B.K ds R X) : Sv B W (t__law_whole B.K W) (ini N__law_whole ds) { nx := fun _ => R (.dat .non), rt := R, xc := fun x _ => X x } := by
  obtain ⟨i, rfl, hR⟩ := h
  show Sv B W (t__law_whole B.K W) [.dat (.int i)] _
  unfold t__law_whole
  refine sv_ret (by walk_at "ev") ?_
  exact hR
theorem pure_check_text {mg : Str → Option Value} (B : Bx) (T : Tx B.K mg) (W : WX) (ds : List D) (R : Sl → Prop) (X : Xc → Prop) (h : F_check_text B.K ds R X) : Sv B W (t_check_text B.K W) (ini N_check_text ds) { nx := fun _ => R (.dat .non), rt := R, xc := fun x _ => X x } := by
  obtain ⟨ls, x, rfl, hR, hX⟩ := h
  show Sv B W (t_check_text B.K W) [.dat (.str (tx ls)), .dat (.str (tx x)), .un, .un] _
  unfold t_check_text
  refine sv_forI (fun p : Nat × Nat => .tup [.int (p.2 : Nat), .str (tx [p.1])]) x.zipIdx (evi_enumS (by walk_at "ev")) (fun i Γ' => (∀ k, k < i → ∀ c, x[k]? = some c → c ∈ ls) ∧ ∃ c1 c2 : Sl, Γ' = [.dat (.str (tx ls)), .dat (.str (tx x)), c1, c2]) ⟨fun k hk => absurd hk (Nat.not_lt_zero k), _, _, rfl⟩ (fun Γ' ⟨h, _⟩ => hR fun c hc => ?_) ?_
  · obtain ⟨k, hk, e⟩ := List.getElem_of_mem hc
    exact h k (by rw [List.length_zipIdx]; exact hk) c (by rw [List.getElem?_eq_getElem hk, e])
  · rintro i p Γ' hp ⟨hg, c1, c2, rfl⟩
    rw [List.getElem?_zipIdx] at hp
    obtain ⟨c, hc, rfl⟩ := Option.map_eq_some_iff.mp hp
    have hlt := (List.getElem?_eq_some_iff.mp hc).1
    refine ⟨_, evg_tup (evgs_cons (evg_name (by walk_at "at")) (evgs_cons (evg_name (by walk_at "at")) evgs_nil)) rfl, ?_⟩
    refine sv_if (by walk_at "ev") (fun h => ?_) (fun h => sv_next ?_)
    · have hn : c ∉ ls := by simpa using h
      have hbad : bad1 ls x = i := by
        unfold bad1
        rw [List.findIdx_eq hlt]
        refine ⟨by rw [List.getElem?_eq_getElem hlt] at hc; rw [Option.some.inj hc]; simpa using hn, fun k hk => ?_⟩
        have := hg k hk x[k] (List.getElem?_eq_getElem (by omega))
        simpa using this
      have := hX fun q => hn (q c (List.mem_of_getElem? hc))
      rw [hbad] at this
      have e0 : ((0 + i : Nat) : Int) = (i : Int) := by omega
      refine svr1 (d := .int (i : Nat)) (eva_cons (ev_eq (ev_var rfl) (by simp)) eva_nil) this
    · have hm : c ∈ ls := by simpa using h
      refine ⟨fun k hk d hd => ?_, _, _, rfl⟩
      rcases Nat.lt_or_ge k i with q | q
      · exact hg k q d hd
      · have : k = i := by omega
        subst this
        rw [hc] at hd
        rw [← Option.some.inj hd]; exact hm
theorem pure_in_task {mg : Str → Option Value} (B : Bx) (T : Tx B.K mg) (W : WX) (ds : List D) (R : Sl → Prop) (X : Xc → Prop) (h : F_in_task B.K ds R X) : Sv B W (t_in_task B.K W) (ini N_in_task ds) { nx := fun _ => R (.dat .non), rt := R, xc := fun x _ => X x } := by
  obtain ⟨t, x, rfl, hl, hU, hB, hR⟩ := h
  show Sv B W (t_in_task B.K W) [.dat (.str (tx t)), .dat (.str (tx x)), .un] _
  unfold t_in_task
  by_cases ht : t ∈ kTasks
  · refine sv_seq (sv_drop (ev_callS (by walk_at "ev") ⟨t, rfl, fun _ => rfl, fun q => absurd ht q⟩) ?_)
    by_cases hx : ∀ c ∈ x, c ∈ [97, 98]
    · have hR := hR ht hx
      refine sv_seq (sv_drop (ev_callS (by walk_at "ev") ⟨[97, 98], x, rfl, fun _ => rfl, fun q => absurd hx q⟩) ?_)
      refine sv_seq (sv_set (d := .int (x.length / 2 : Nat)) (by walk_at "eq") (by walk_at "at") ?_)
      unfold inT at hR
      refine sv_seq (sv_if (by walk_at "ev") (fun h => ?_) (fun h => ?_))
      · rw [if_pos (of_decide_eq_true h)] at hR
        exact sv_ret (by walk_at "ev") hR
      · rw [if_neg (of_decide_eq_false h)] at hR
        refine sv_next (sv_seq (sv_if (by walk_at "ev") (fun h => ?_) (fun h => ?_)))
        · rw [if_pos (of_decide_eq_true h)] at hR
          refine sv_ret (by walk_at "ev") ?_
          show R _
          have e : decide (((x.count 97 : Nat) : Int) = ((x.count 98 : Nat) : Int)) = decide (x.count 97 = x.count 98) := decide_eq_decide.mpr (by omega)
          rw [e]; exact hR
        · rw [if_neg (of_decide_eq_false h)] at hR
          refine sv_next (sv_seq (sv_if (by walk_at "ev") (fun h => ?_) (fun h => ?_)))
          · rw [if_pos (of_decide_eq_true h)] at hR
            have hc : (cut x none (some ((x.length / 2 : Nat) : Int))).length ≤ x.length := cut_len _ _ _
            refine sv_ret (by walk_at "ev") ?_
            show R _
            rw [cut_take]; exact hR
          · rw [if_neg (of_decide_eq_false h)] at hR
            refine sv_next (sv_ret (by walk_at "ev") ?_)
            show R _
            rw [rep_one, rep_one, Int.toNat_natCast]; exact hR
    · exact sv_seq (svx_drop (evx_call (x := xBT B.K (bad1 [97, 98] x)) (by walk_at "ev") ⟨[97, 98], x, rfl, fun q => absurd q hx, fun _ => rfl⟩) (hB ht hx))
  · exact sv_seq (svx_drop (evx_call (x := xUT B.K t) (by walk_at "ev") ⟨t, rfl, fun q => absurd q ht, fun _ => rfl⟩) (hU ht))
theorem pure__law_is_refused {mg : Str → Option Value} (B : Bx) (T : Tx B.K mg) (W : WX) (ds : List D) (R : Sl → Prop) (X : Xc → Prop) (h : F__law_is_refused B.K ds R X) : Sv B W (t__law_is_refused B.K W) (ini N__law_is_refused ds) { nx := fun _ => R (.dat .non), rt := R, xc := fun x _ => X x } := by
  obtain ⟨t, x, due, rfl, hl, hcase, hR⟩ := h
  show Sv B W (t__law_is_refused B.K W) [.dat (.str (tx t)), .dat (.str (tx x)), .dat due, .un] _
  unfold t__law_is_refused
  refine sv_seq (svt_many 4 (fun W' => ?_))
  rcases hcase with ⟨ht, rfl⟩ | ⟨ht, hx, rfl⟩
  · refine svx_drop (evx_call (x := xUT B.K t) (by walk_at "ev") ⟨t, x, rfl, hl, fun _ => rfl, fun q => absurd q ht, fun q => absurd q ht⟩) ?_
    refine .inl ⟨T.m_UnknownTask_UnknownTask, by decide, rfl, (fun q => nomatch q), fun a d => ?_⟩
    have he : Ev B (tXg B.K a (.ref (He.ga B.K "UnknownTask")) (some d) "task" (tVar 3)) [.dat (.str (tx t)), .dat (.str (tx x)), .dat .non, .dat (.xc a d [("task", .str (tx t))])] (.str (tx t)) := ev_xg (by walk_at "ev") T.y_UnknownTask T.n_UnknownTask_task rfl
    have hi : Ev B (tCB (rIsG B.K a (.ref (He.ga B.K "UnknownTask")) (some d)) (tCons (tVar 3) (tCons (tC (.ref (He.ga B.K "ClockError"))) tNil))) [.dat (.str (tx t)), .dat (.str (tx x)), .dat .non, .dat (.xc a d [("task", .str (tx t))])] (.bl true) := ev_isG (by walk_at "ev") T.c_UnknownTask T.k_UnknownTask_ClockError
    refine sv_ret (d := .bl true) ?_ hR
    exact ev_eq (ev_and (by walk_at "ev") fun _ => ev_and hi fun _ => ev_op he (by walk_at "ev") rv_eqT) (by simp [D.isNon])
  · refine svx_drop (evx_call (x := xBT B.K (bad1 [97, 98] x)) (by walk_at "ev") ⟨t, x, rfl, hl, fun q => absurd ht q, fun _ _ => rfl, fun _ q => absurd q hx⟩) ?_
    refine .inr ⟨T.m_BadText_UnknownTask, .inl ⟨T.m_BadText_BadText, by decide, rfl, (fun q => nomatch q), fun a d => ?_⟩⟩
    have he : Ev B (tXg B.K a (.ref (He.ga B.K "BadText")) (some d) "index" (tVar 3)) [.dat (.str (tx t)), .dat (.str (tx x)), .dat (.int (bad1 [97, 98] x)), .dat (.xc a d [("index", .int (bad1 [97, 98] x))])] (.int (bad1 [97, 98] x)) := ev_xg (by walk_at "ev") T.y_BadText T.n_BadText_index rfl
    have hi : Ev B (tCB (rIsG B.K a (.ref (He.ga B.K "BadText")) (some d)) (tCons (tVar 3) (tCons (tC (.ref (He.ga B.K "ClockError"))) tNil))) [.dat (.str (tx t)), .dat (.str (tx x)), .dat (.int (bad1 [97, 98] x)), .dat (.xc a d [("index", .int (bad1 [97, 98] x))])] (.bl true) := ev_isG (by walk_at "ev") T.c_BadText T.k_BadText_ClockError
    refine sv_ret (d := .bl true) ?_ hR
    exact ev_eq (ev_and (by walk_at "ev") fun _ => ev_and hi fun _ => ev_and (ev_callS (eva_cons he eva_nil) ⟨_, rfl, rfl⟩) fun _ => ev_op he (by walk_at "ev") rv_eqI) (by simp [D.isNon])
theorem pure__law_long_text {mg : Str → Option Value} (B : Bx) (T : Tx B.K mg) (W : WX) (ds : List D) (R : Sl → Prop) (X : Xc → Prop) (h : F__law_long_text B.K ds R X) : Sv B W (t__law_long_text B.K W) (ini N__law_long_text ds) { nx := fun _ => R (.dat .non), rt := R, xc := fun x _ => X x } := by
  obtain ⟨ls, c, n, rfl, h0, h1, h2, h3, hR⟩ := h
  show Sv B W (t__law_long_text B.K W) [.dat (.str (tx ls)), .dat (.int c), .dat (.int n), .un, .un, .un] _
  unfold t__law_long_text
  refine sv_seq (sv_set (by walk_at "ev") (by walk_at "at") ?_)
  refine sv_seq (sv_set (by walk_at "ev") (by walk_at "at") ?_)
  refine sv_seq (sv_forR (n := n.toNat) (by walk_at "ev") (fun k Γ' => ∃ (x : List Nat) (s : Int) (c5 : Sl), Γ' = [.dat (.str (tx ls)), .dat (.int c), .dat (.int n), .dat (.str (tx x)), .dat (.int s), c5] ∧ k ≤ n.toNat ∧ x.length = k ∧ 0 ≤ s ∧ s < 2147483647 ∧ longGo ls (c % 2147483629) 0 n.toNat = x ++ longGo ls s k (n.toNat - k)) ⟨[], _, _, rfl, Nat.zero_le _, rfl, by omega, by omega, rfl⟩ ?_ ?_)
  · rintro Γ' ⟨x, s, c5, rfl, _, hx, _, _, e⟩
    rw [Nat.sub_self, show longGo ls s n.toNat 0 = [] from rfl, List.append_nil] at e
    rw [e] at hR
    exact sv_ret (by walk_at "ev") hR
  · rintro k Γ' hk ⟨x, s, c5, rfl, _, hx, b1, b2, e⟩
    obtain ⟨q1, q2⟩ := digSeed_lt s k
    refine ⟨_, evg_name (by walk_at "at"), ?_⟩
    refine sv_seq (sv_set (d := .int (digSeed s k)) (by walk_at "eq") (by walk_at "at") ?_)
    have i1 : 0 ≤ digSeed s k / 65537 % (ls.length : Nat) := Int.emod_nonneg _ (by omega)
    have i2 : digSeed s k / 65537 % (ls.length : Nat) < (ls.length : Nat) := Int.emod_lt_of_pos _ (by omega)
    have i3 : (digSeed s k / 65537 % (ls.length : Nat)).toNat < ls.length := by omega
    have hat : atI ls (digSeed s k / 65537 % (ls.length : Nat)) = some (ls.getD (digSeed s k / 65537 % (ls.length : Nat)).toNat 0) := by
      have := atI_ofNat (xs := ls) (n := (digSeed s k / 65537 % (ls.length : Nat)).toNat) (x := ls.getD (digSeed s k / 65537 % (ls.length : Nat)).toNat 0) (by rw [List.getD_eq_getElem?_getD, List.getElem?_eq_getElem i3]; rfl)
      rw [Int.toNat_of_nonneg i1] at this
      exact this
    have hpos : (0 : Int) < (ls.length : Nat) := by omega
    refine sv_set (by walk_at "ev") (by walk_at "at") ?_
    refine ⟨_, _, _, rfl, hk, by simp [hx], q1, q2, ?_⟩
    obtain ⟨m, hm⟩ : ∃ m, n.toNat - k = m + 1 := ⟨n.toNat - k - 1, by omega⟩
    have hm2 : n.toNat - (k + 1) = m := by omega
    rw [e, hm, hm2]
    simp [longGo]
theorem pure__law_texts {mg : Str → Option Value} (B : Bx) (T : Tx B.K mg) (W : WX) (ds : List D) (R : Sl → Prop) (X : Xc → Prop) (h : F__law_texts B.K ds R X) : Sv B W (t__law_texts B.K W) (ini N__law_texts ds) { nx := fun _ => R (.dat .non), rt := R, xc := fun x _ => X x } := by
  obtain ⟨ls, n, rfl, h0, h1, h2, hR⟩ := h
  show Sv B W (t__law_texts B.K W) [.dat (.str (tx ls)), .dat (.int n), .un, .un, .un, .un, .un] _
  unfold t__law_texts
  refine sv_seq (sv_set (by walk_at "ev") (by walk_at "at") ?_)
  refine sv_seq (sv_forR (n := n.toNat) (by walk_at "ev") (fun k Γ' => ∃ c3 c4 c5 c6 : Sl, Γ' = [.dat (.str (tx ls)), .dat (.int n), .dat (.lst ((allW ls k).map fun t => .str (tx t))), c3, c4, c5, c6]) ⟨_, _, _, _, rfl⟩ ?_ ?_)
  · rintro Γ' ⟨c3, c4, c5, c6, rfl⟩
    exact sv_ret (by walk_at "ev") hR
  · rintro k Γ' hk ⟨c3, c4, c5, c6, rfl⟩
    have hbig : (allW ls (k + 1)).length ≤ 4 ^ 7 := by
      rw [allW_len]
      exact Nat.le_trans (Nat.pow_le_pow_left h2 _) (Nat.pow_le_pow_right (by decide) (by omega))
    refine ⟨_, evg_name (by walk_at "at"), ?_⟩
    refine sv_seq (sv_setO (by walk_at "eo") (by walk_at "at") ?_)
    refine sv_seq (sv_for (fun t => D.str (tx t)) (allW ls k) (by walk_at "ev") (fun r Γ' => ∃ (g : List (List Nat)) (c5 c6 : Sl), Γ' = [.dat (.str (tx ls)), .dat (.int n), .dat (.lst ((allW ls k).map fun t => .str (tx t))), .dat (.int (k : Nat)), .own (.lst (g.map fun t => .str (tx t))), c5, c6] ∧ allW ls (k + 1) = g ++ r.flatMap fun t => ls.map fun c => t ++ [c]) ⟨[], _, _, rfl, rfl⟩ ?_ ?_)
    · rintro Γ' ⟨g, c5, c6, rfl, e⟩
      have e2 : allW ls (k + 1) = g := by simpa using e
      rw [← e2]
      refine sv_freeze 4 rfl (by walk_at "at") ?_
      exact sv_set (by walk_at "ev") (by walk_at "at") ⟨_, _, _, _, rfl⟩
    · rintro t r Γ' ⟨pre, hpre⟩ ⟨g, c5, c6, rfl, e⟩
      have ht := (allW_spec ls k t (by rw [hpre]; simp)).1
      refine ⟨_, evg_name (by walk_at "at"), ?_⟩
      refine sv_for (fun c => D.str (tx [c])) ls (by walk_at "ev") (fun r2 Γ' => ∃ (g : List (List Nat)) (c6 : Sl), Γ' = [.dat (.str (tx ls)), .dat (.int n), .dat (.lst ((allW ls k).map fun t => .str (tx t))), .dat (.int (k : Nat)), .own (.lst (g.map fun t => .str (tx t))), .dat (.str (tx t)), c6] ∧ allW ls (k + 1) = g ++ ((r2.map fun c => t ++ [c]) ++ r.flatMap fun t => ls.map fun c => t ++ [c])) ⟨g, _, rfl, by rw [e, List.flatMap_cons]⟩ ?_ ?_
      · rintro Γ' ⟨g, c6, rfl, e⟩
        exact ⟨g, _, _, rfl, by simpa using e⟩
      · rintro c r2 Γ' _ ⟨g, c6, rfl, e⟩
        have hg : g.length ≤ 4 ^ 7 := by
          have := congrArg List.length e
          rw [List.length_append] at this
          omega
        refine ⟨_, evg_name (by walk_at "at"), ?_⟩
        refine sv_app rfl (by walk_at "ev") (by rw [List.length_map]; omega) (by walk_at "at") ?_
        exact ⟨g ++ [t ++ [c]], .dat (.str (tx [c])), by rw [List.map_append]; rfl, by rw [e]; simp⟩
theorem join_one (f : Nat → Nat) : ∀ x : List Nat, joinL [] (x.map fun c => [f c]) = x.map f
  | [] => rfl
  | [c] => rfl
  | c :: d :: r => by
    have := join_one f (d :: r)
    simp only [List.map_cons] at this ⊢
    show [f c] ++ [] ++ joinL [] ([f d] :: List.map (fun c => [f c]) r) = _
    rw [this]; rfl
theorem ev_flip {B : Bx} {Γ : List Sl} {te : TE} {x : List Nat} {i : Nat} (hx : Ev B te Γ (.str (tx x))) (hi : i < Γ.length) (hl : x.length ≤ 1000000) :
    Ev B (tBM B.K "str" (zJoin B.K) (tC (.str (tx []))) (tCons (tLc (iStr te) (gName i) tYes (tOp (zIx B.K) (tLst (tCons (tC (.str (tx [98]))) (tCons (tC (.str (tx [97]))) tNil))) (tCB zInt (tCons (tOp (zEq B.K) (tVar i) (tC (.str (tx [98])))) tNil))) [i]) tNil)) Γ (.str (tx (flipW x))) := by
  have h1 : EvO B (tLc (iStr te) (gName i) tYes (tOp (zIx B.K) (tLst (tCons (tC (.str (tx [98]))) (tCons (tC (.str (tx [97]))) tNil))) (tCB zInt (tCons (tOp (zEq B.K) (tVar i) (tC (.str (tx [98])))) tNil))) [i]) Γ (.lst (x.map fun c => .str (tx [flip c]))) := by
    refine evo_map1 (fun c => D.str (tx [c])) x (fun c => .str (tx [flip c])) (evi_str hx) hi (by omega) fun c hc => ?_
    have hv : Ev B (tVar i) (Γ.set i (.dat (.str (tx [c])))) (.str (tx [c])) := ev_var (List.getElem?_set_self hi)
    have hat : atI [D.str (tx [98]), D.str (tx [97])] (if decide ([c] = [98]) = true then (1 : Int) else 0) = some (.str (tx [flip c])) := by
      by_cases e : c = 98
      · subst e; rfl
      · rw [if_neg (by simpa using e)]
        unfold flip
        rw [if_neg e]; rfl
    exact ev_op (by walk_at "ev") (ev_cb (eva_cons (ev_op hv ev_str rv_eqT) eva_nil) rc_intB) (rv_ixL hat)
  have h2 := ev_bmT (r := zJoin B.K) (c := .str (tx (joinL [] (x.map fun c => [flip c])))) (ev_str (B := B) (Γ := Γ) (x := tx [])) (eva_cons (Ev.of_own h1) eva_nil) (by
    have hm : x.map (fun c => D.str (tx [flip c])) = (x.map fun c => [flip c]).map fun y => D.str (tx y) := by rw [List.map_map]; rfl
    rw [hm]
    refine rm_join ?_
    rw [List.map_map]
    have e1 : (x.map (List.length ∘ fun c => [flip c])) = List.replicate x.length 1 := by
      rw [List.eq_replicate_iff]
      refine ⟨by simp, fun m hm => ?_⟩
      rw [List.mem_map] at hm
      obtain ⟨_, _, rfl⟩ := hm
      rfl
    rw [e1, List.sum_replicate_nat]
    simp; omega)
  rw [join_one] at h2
  exact h2
theorem pure__law_member {mg : Str → Option Value} (B : Bx) (T : Tx B.K mg) (W : WX) (ds : List D) (R : Sl → Prop) (X : Xc → Prop) (h : F__law_member B.K ds R X) : Sv B W (t__law_member B.K W) (ini N__law_member ds) { nx := fun _ => R (.dat .non), rt := R, xc := fun x _ => X x } := by
  obtain ⟨t, n, x, rfl, h0, h1, h2, hR⟩ := h
  show Sv B W (t__law_member B.K W) [.dat (.str (tx t)), .dat (.int n), .dat (.str (tx x)), .un] _
  unfold t__law_member
  unfold memb at hR
  have hf : (flipW x).length = x.length := by unfold flipW; simp
  refine sv_seq (sv_if (by walk_at "ev") (fun h => ?_) (fun h => ?_))
  · rw [if_pos (of_decide_eq_true h)] at hR
    exact sv_ret (by walk_at "ev") hR
  · rw [if_neg (of_decide_eq_false h)] at hR
    refine sv_next (sv_seq (sv_if (by walk_at "ev") (fun h => ?_) (fun h => ?_)))
    · rw [if_pos (of_decide_eq_true h)] at hR
      exact sv_ret (ev_op (by walk_at "ev") (ev_flip (by walk_at "ev") (Nat.le_of_ble_eq_true rfl) (by omega)) (rv_addT (by omega))) hR
    · rw [if_neg (of_decide_eq_false h)] at hR
      refine sv_next (sv_seq (sv_if (by walk_at "ev") (fun h => ?_) (fun h => ?_)))
      · rw [if_pos (of_decide_eq_true h)] at hR
        exact sv_ret (by walk_at "ev") hR
      · rw [if_neg (of_decide_eq_false h)] at hR
        refine sv_next (sv_ret (by walk_at "ev") ?_)
        show R _
        rw [rep_one, rep_one]; exact hR
theorem row6 (z : Int) : ∃ d0 d1 d2 d3 d4 d5 : Int, digits z [4, 201, 13, 13, 400, 4] = [d0, d1, d2, d3, d4, d5] ∧ (0 ≤ d0 ∧ d0 < 4) ∧ (0 ≤ d1 ∧ d1 < 201) ∧ (0 ≤ d2 ∧ d2 < 13) ∧ (0 ≤ d3 ∧ d3 < 13) ∧ (0 ≤ d4 ∧ d4 < 400) ∧ (0 ≤ d5 ∧ d5 < 4) := by
  obtain ⟨d0, e0, b0⟩ := digits_lt z [4, 201, 13, 13, 400, 4] 0 4 rfl (by decide)
  obtain ⟨d1, e1, b1⟩ := digits_lt z [4, 201, 13, 13, 400, 4] 1 201 rfl (by decide)
  obtain ⟨d2, e2, b2⟩ := digits_lt z [4, 201, 13, 13, 400, 4] 2 13 rfl (by decide)
  obtain ⟨d3, e3, b3⟩ := digits_lt z [4, 201, 13, 13, 400, 4] 3 13 rfl (by decide)
  obtain ⟨d4, e4, b4⟩ := digits_lt z [4, 201, 13, 13, 400, 4] 4 400 rfl (by decide)
  obtain ⟨d5, e5, b5⟩ := digits_lt z [4, 201, 13, 13, 400, 4] 5 4 rfl (by decide)
  refine ⟨d0, d1, d2, d3, d4, d5, ?_, b0, b1, b2, b3, b4, b5⟩
  have hl := digits_len z [4, 201, 13, 13, 400, 4]
  generalize digits z [4, 201, 13, 13, 400, 4] = l at *
  match l, hl with
  | [x0, x1, x2, x3, x4, x5], _ =>
    simp at e0 e1 e2 e3 e4 e5
    subst e0 e1 e2 e3 e4 e5
    rfl
theorem mem_cut {x : List Nat} {lo hi : Option Int} {c : Nat} (h : c ∈ cut x lo hi) : c ∈ x := List.mem_of_mem_drop (List.mem_of_mem_take h)
theorem bad_c (x : List Nat) (h : ab x) : bad1 [97, 98] (x ++ [99]) = x.length := by
  unfold bad1
  rw [List.findIdx_eq (by simp)]
  refine ⟨by simp, fun j hj => ?_⟩
  rw [List.getElem_append_left hj]
  have := h _ (List.getElem_mem hj)
  simp; omega
theorem not_ab_c (x : List Nat) : ¬ ∀ c ∈ x ++ [99], c ∈ [97, 98] := fun h => by have := h 99 (by simp); simp at this
theorem ab_in {x : List Nat} (h : ab x) : ∀ c ∈ x, c ∈ [97, 98] := fun c hc => by rcases h c hc with rfl | rfl <;> simp
theorem pyT (l : List (List Nat)) (h : ∀ t ∈ l, ∀ c ∈ t, c < 1114112) : pyAll (l.map fun t => .str (tx t)) = some (l.map fun t => .str (tx t)) ∧ PyData.canLayAll0 (l.map fun t => .str (tx t)) = true ∧ PyData.depthAll (l.map fun t => .str (tx t)) = 0 ∧ PyData.eqvAll (l.map fun t => .str (tx t)) (l.map fun t => .str (tx t)) = true := by
  induction l with
  | nil => exact ⟨rfl, by simp [PyData.canLayAll0], by simp [PyData.depthAll], by simp [PyData.eqvAll]⟩
  | cons t r ih =>
    obtain ⟨h1, h2, h3, h4⟩ := ih fun u hu => h u (List.mem_cons_of_mem _ hu)
    refine ⟨?_, ?_, ?_, ?_⟩
    · show (D.py (.str (tx t))).bind (fun p => (pyAll (r.map fun t => D.str (tx t))).map fun q => p :: q) = _
      rw [h1]; rfl
    · simp [PyData.canLayAll0, PyData.canLay0, strOk_tx (h t List.mem_cons_self)]; simpa using h2
    · simp [PyData.depthAll, PyData.depth]; simpa using h3
    · simp [PyData.eqvAll, PyData.eqv]; simpa using h4
theorem pure_law {mg : Str → Option Value} (B : Bx) (T : Tx B.K mg) (W : WX) (ds : List D) (R : Sl → Prop) (X : Xc → Prop) (h : F_law B.K ds R X) : Sv B W (t_law B.K W) (ini N_law ds) { nx := fun _ => R (.dat .non), rt := R, xc := fun x _ => X x } := by
  obtain ⟨ns, rfl, hl, hR⟩ := h
  show Sv B W (t_law B.K W) [.dat (.lst (ns.map .int)), .un, .un, .un, .un, .un, .un, .un, .un, .un, .un, .un, .un, .un] _
  unfold t_law
  obtain ⟨d0, d1, d2, d3, d4, d5, hrow, b0, b1, b2, b3, b4, b5⟩ := row6 (cellZ ns 0)
  have hcell : ∀ k : Int, 0 ≤ k → k < 100 → Fcell [.lst (ns.map .int), .int k] (fun s => s.toD = some (.int (cellZ ns k))) (fun _ => False) := fun k h1 h2 => ⟨ns, k, rfl, h1, by omega, rfl⟩
  have hdig : Fdigits [.int (cellZ ns 0), .lst [.int 4, .int 201, .int 13, .int 13, .int 400, .int 4]] (fun s => s.toD = some (.lst [.int d0, .int d1, .int d2, .int d3, .int d4, .int d5])) (fun _ => False) :=
    ⟨cellZ ns 0, [4, 201, 13, 13, 400, 4], rfl, by decide, by decide, by rw [hrow]; rfl⟩
  have hpy := pyT kTasks (by decide)
  have hnames : ∀ Γ : List Sl, Ev B (tCall (spz B.K (F__law_task_names B.K)) [] E0 tNil) Γ (.lst (kTasks.map fun t => .str (tx t))) := fun Γ => ev_call eva_nil ⟨rfl, rfl⟩
  have hsh : SeqAt.shaped (.tuple (kTasks.map fun t => .str (tx t))) = true := by
    unfold SeqAt.shaped
    rw [show PyData.canLay0 (.tuple (kTasks.map fun t => .str (tx t))) = true from hpy.2.1, PyData.depth, hpy.2.2.1]; rfl
  have hpt : D.py (.tup (kTasks.map fun t => .str (tx t))) = some (.tuple (kTasks.map fun t => .str (tx t))) := by
    show (pyAll (kTasks.map fun t => D.str (tx t))).map PyData.tuple = _
    rw [hpy.1]; rfl
  refine sv_seq (sv_if (p := false) (evt_eq (evt_test (ev_op (ev_call eva_nil ⟨rfl, rfl⟩) (ev_cb (eva_cons (hnames _) eva_nil) rc_tupleL) (rv_neD hpt hpt hsh hsh))) (by rw [show PyData.eqv (.tuple (kTasks.map fun t => .str (tx t))) (.tuple (kTasks.map fun t => .str (tx t))) = true from hpy.2.2.2]; rfl)) (fun h => nomatch h) fun _ => sv_next ?_)
  refine sv_seq (sv_set (ev_callS (eva_cons (ev_callS (by walk_at "ev") (hcell 0 (by decide) (by decide))) (by walk_at "ev")) hdig) (by walk_at "at") ?_)
  refine sv_seq (sv_setO (by walk_at "eo") (by walk_at "at") ?_)
  let rowD : Sl := .dat (.lst [.int d0, .int d1, .int d2, .int d3, .int d4, .int d5])
  let enc : List Nat → D := fun t => .str (tx t)
  refine sv_seq (sv_forR (n := 4) (evi_rng1 (n := 4) (by walk_at "ev") (by decide)) (fun k Γ' => ∃ (L : List (List Nat)) (c3 : Sl), Γ' = [.dat (.lst (ns.map .int)), rowD, .own (.lst (L.map enc)), c3, .un, .un, .un, .un, .un, .un, .un, .un, .un, .un] ∧ (∀ t ∈ L, ab t ∧ t.length ≤ 12) ∧ L.length ≤ 16 * k) ⟨[], _, rfl, (fun _ h => nomatch h), by simp⟩ ?_ ?_)
  rotate_left
  · rintro k Γ' hk ⟨L, c3, rfl, hL, hn⟩
    refine ⟨_, evg_name (by walk_at "at"), ?_⟩
    refine sv_freeze 2 rfl (by walk_at "at") ?_
    have hw : F__law_texts B.K [.str (tx [97, 98]), .int (k : Nat)] (fun s => s.toD = some (.lst ((allW [97, 98] k).map enc))) (fun _ => False) := ⟨[97, 98], (k : Nat), rfl, by omega, by omega, by decide, by rw [Int.toNat_natCast]; rfl⟩
    have hlen : (allW [97, 98] k).length ≤ 16 := by
      rw [allW_len]
      exact Nat.le_trans (Nat.pow_le_pow_right (by decide) (show k ≤ 4 by omega)) (by decide)
    refine sv_setO (w := .lst ((L ++ allW [97, 98] k).map enc)) ?_ (by walk_at "at") ⟨_, _, rfl, fun t ht => ?_, by rw [List.length_append]; omega⟩
    · exact evo_eq (evo_addL rfl (by walk_at "ev") (ev_callS (by walk_at "ev") hw) (by rw [List.length_map, List.length_map]; omega)) (by rw [List.map_append])
    · rcases List.mem_append.mp ht with q | q
      · exact hL t q
      · obtain ⟨q1, q2⟩ := allW_spec [97, 98] k t q
        exact ⟨fun c hc => by simpa using q2 c hc, by omega⟩
  rintro Γ' ⟨L, c3, rfl, hL, hn⟩
  refine sv_seq (sv_forR (n := 2) (evi_rng1 (n := 2) (by walk_at "ev") (by decide)) (fun k Γ' => ∃ (L : List (List Nat)) (c4 : Sl), Γ' = [.dat (.lst (ns.map .int)), rowD, .own (.lst (L.map enc)), c3, c4, .un, .un, .un, .un, .un, .un, .un, .un, .un] ∧ (∀ t ∈ L, ab t ∧ t.length ≤ 12) ∧ L.length ≤ 64 + k) ⟨L, _, rfl, hL, by omega⟩ ?_ ?_)
  rotate_left
  · rintro k Γ' hk ⟨L, c4, rfl, hL, hn⟩
    refine ⟨_, evg_name (by walk_at "at"), ?_⟩
    obtain ⟨dk, hdk, hd0, hd1⟩ : ∃ dk : Int, atI [D.int d0, .int d1, .int d2, .int d3, .int d4, .int d5] (2 + (k : Nat) : Int) = some (.int dk) ∧ 0 ≤ dk ∧ dk ≤ 12 := by
      have : k = 0 ∨ k = 1 := by omega
      rcases this with rfl | rfl
      · exact ⟨d2, rfl, by omega, by omega⟩
      · exact ⟨d3, rfl, by omega, by omega⟩
    have ht := hcell (1 + (k : Nat)) (by omega) (by omega)
    have hw : F__law_long_text B.K [.str (tx [97, 98]), .int (cellZ ns (1 + (k : Nat))), .int dk] (fun s => s.toD = some (.str (tx (longGo [97, 98] (cellZ ns (1 + (k : Nat)) % 2147483629) 0 dk.toNat)))) (fun _ => False) := ⟨[97, 98], _, dk, rfl, by decide, by decide, hd0, by omega, rfl⟩
    refine sv_app rfl (ev_callS (eva_cons (by walk_at "ev") (eva_cons (ev_callS (by walk_at "ev") ht) (by walk_at "ev"))) hw) (by rw [List.length_map]; omega) (by walk_at "at") ⟨L ++ [_], _, by rw [List.map_append]; rfl, fun t ht => ?_, by rw [List.length_append]; simp; omega⟩
    rcases List.mem_append.mp ht with q | q
    · exact hL t q
    · have e : t = longGo [97, 98] (cellZ ns (1 + (k : Nat)) % 2147483629) 0 dk.toNat := by simpa using q
      subst e
      exact ⟨fun c hc => by simpa using longGo_mem [97, 98] (by decide) _ _ _ c hc, by rw [longGo_len]; omega⟩
  clear hL hn L
  rintro Γ' ⟨L, c4, rfl, hL, hn⟩
  refine sv_freeze 2 rfl (by walk_at "at") ?_
  obtain ⟨half, hhalf, hab, hhl⟩ : ∃ half, longGo [97, 98] (cellZ ns 3 % 2147483629) 0 d1.toNat = half ∧ ab half ∧ half.length ≤ 200 := ⟨_, rfl, fun c hc => by simpa using longGo_mem [97, 98] (by decide) _ _ _ c hc, by rw [longGo_len]; omega⟩
  have hw : F__law_long_text B.K [.str (tx [97, 98]), .int (cellZ ns 3), .int d1] (fun s => s.toD = some (.str (tx half))) (fun _ => False) := ⟨[97, 98], _, d1, rfl, by decide, by decide, by omega, by omega, by rw [hhalf]; rfl⟩
  refine sv_seq (sv_set (ev_callS (eva_cons (by walk_at "ev") (eva_cons (ev_callS (by walk_at "ev") (hcell 3 (by decide) (by decide))) (by walk_at "ev"))) hw) (by walk_at "at") ?_)
  have h9 : (cut half none (some 9)).length ≤ half.length := cut_len _ _ _
  have hab9 : ab (cut half none (some 9)) := fun c hc => hab c (mem_cut hc)
  have hR9 : ∀ t, t ∉ kTasks → ∀ x : List Nat, x.length ≤ 1000 → F__law_is_refused B.K [.str (tx t), .str (tx x), .non] (fun s => s.toD = some (.bl true)) (fun _ => False) := fun t ht x hx => ⟨t, x, .non, rfl, by omega, .inl ⟨ht, rfl⟩, rfl⟩
  refine sv_seq (sv_forR (n := 2) (evi_rng1 (n := 2) (by walk_at "ev") (by decide)) (fun k Γ' => ∃ (c4 c6 c7 c8 c9 c10 c11 : Sl), Γ' = [.dat (.lst (ns.map .int)), rowD, .dat (.lst (L.map enc)), c3, c4, .dat (.str (tx half)), c6, c7, c8, c9, c10, c11, .un, .un]) ⟨_, _, _, _, _, _, _, rfl⟩ ?_ ?_)
  · rintro Γ' ⟨c4, c6, c7, c8, c9, c10, c11, rfl⟩
    have fin : ∀ s, s ∉ kTasks → ∀ c12 : Sl, c12 = .dat (.str (tx s)) → Sv B W (tRet (tAndV (tCallS (spz B.K (F__law_is_refused B.K)) (WE W) (tCons (tVar 12) (tCons (tSl (zSl B.K) (tVar 5) tNoPart (tPart (tC (.int 9)))) (tCons (tC .non) tNil)))) (tCallS (spz B.K (F__law_is_refused B.K)) (WE W) (tCons (tVar 12) (tCons (tOp (zAdd B.K) (tSl (zSl B.K) (tVar 5) tNoPart (tPart (tC (.int 9)))) (tC (.str (tx [99])))) (tCons (tC .non) tNil))))))
        [.dat (.lst (ns.map .int)), rowD, .dat (.lst (L.map enc)), c3, c4, .dat (.str (tx half)), c6, c7, c8, c9, c10, c11, c12, .un] { nx := fun _ => R (.dat .non), rt := R, xc := fun x _ => X x } := fun s hs c12 e => by
      subst e
      exact sv_ret (d := .bl true) (ev_and (p := true) (q := true) (ev_callS (by walk_at "ev") (hR9 s hs _ (by omega))) fun _ => ev_callS (by walk_at "ev") (hR9 s hs _ (by rw [List.length_append]; simp; omega))) hR
    have hd5 : d5 = 0 ∨ d5 = 1 ∨ d5 = 2 ∨ d5 = 3 := by omega
    rcases hd5 with rfl | rfl | rfl | rfl
    · exact sv_seq (sv_set (by walk_at "ev") (by walk_at "at") (fin _ (by decide) _ rfl))
    · exact sv_seq (sv_set (by walk_at "ev") (by walk_at "at") (fin _ (by decide) _ rfl))
    · exact sv_seq (sv_set (by walk_at "ev") (by walk_at "at") (fin _ (by decide) _ rfl))
    · exact sv_seq (sv_set (by walk_at "ev") (by walk_at "at") (fin _ (by decide) _ rfl))
  · rintro k Γ' hk ⟨c4, c6, c7, c8, c9, c10, c11, rfl⟩
    refine ⟨_, evg_name (by walk_at "at"), ?_⟩
    obtain ⟨t, ht, hat⟩ : ∃ t, t ∈ kTasks ∧ atI (kTasks.map fun t => D.str (tx t)) ((d0 + (k : Nat)) % 4) = some (.str (tx t)) := by
      have : (d0 + (k : Nat)) % 4 = 0 ∨ (d0 + (k : Nat)) % 4 = 1 ∨ (d0 + (k : Nat)) % 4 = 2 ∨ (d0 + (k : Nat)) % 4 = 3 := by omega
      rcases this with e | e | e | e <;> rw [e]
      · exact ⟨kMir, by simp, rfl⟩
      · exact ⟨kBal, by simp, rfl⟩
      · exact ⟨kDou, by simp, rfl⟩
      · exact ⟨kNes, by simp, rfl⟩
    refine sv_seq (sv_set (ev_op (hnames _) (by walk_at "ev") (rv_ixL hat)) (by walk_at "at") ?_)
    obtain ⟨m, hm, hmab, hml⟩ : ∃ m, memb t d1.toNat half = m ∧ ab m ∧ m.length ≤ 1000 := ⟨_, rfl, memb_ab _ _ _ hab, by have := memb_len t d1.toNat half; omega⟩
    have hmt : inT t m = true := by rw [← hm]; exact inT_memb t _ half hab
    refine sv_seq (sv_set (ev_callS (by walk_at "ev") ⟨t, d1, half, rfl, by omega, by omega, by omega, by rw [hm]; rfl⟩) (by walk_at "at") ?_)
    obtain ⟨mx, hmx, hmx1⟩ : ∃ mx : Int, (if (1 : Int) > (m.length : Nat) then 1 else ((m.length : Nat) : Int)) = mx ∧ 0 < mx := ⟨_, rfl, by split <;> omega⟩
    refine sv_seq (sv_set (d := .int (d4 % mx)) (ev_op (by walk_at "ev") (ev_eq (by walk_at "ev") (by rw [hmx])) (rv_mod hmx1)) (by walk_at "at") ?_)
    have hp0 : 0 ≤ d4 % mx := Int.emod_nonneg _ (by omega)
    have l1 : (cut m none (some (d4 % mx))).length ≤ m.length := cut_len _ _ _
    have l2 : (cut m (some (d4 % mx)) (some (d4 % mx + 1))).length ≤ m.length := cut_len _ _ _
    have l3 : (cut m (some (d4 % mx + 1)) none).length ≤ m.length := cut_len _ _ _
    have l4 : (flipW (cut m (some (d4 % mx)) (some (d4 % mx + 1)))).length = (cut m (some (d4 % mx)) (some (d4 % mx + 1))).length := by unfold flipW; simp
    obtain ⟨ot, hot, hoab, hol⟩ : ∃ ot, cut m none (some (d4 % mx)) ++ flipW (cut m (some (d4 % mx)) (some (d4 % mx + 1))) ++ cut m (some (d4 % mx + 1)) none = ot ∧ ab ot ∧ ot.length ≤ 10000 :=
      ⟨_, rfl, ab_app (ab_app (fun c hc => hmab c (mem_cut hc)) (flipW_ab _)) (fun c hc => hmab c (mem_cut hc)), by rw [List.length_append, List.length_append]; omega⟩
    refine sv_seq (sv_set (d := .str (tx ot)) (by rw [← hot]; exact ev_op (ev_op (by walk_at "ev") (ev_flip (by walk_at "ev") (Nat.le_of_ble_eq_true rfl) (by omega)) (rv_addT (by omega))) (by walk_at "ev") (rv_addT (by rw [List.length_append]; omega))) (by walk_at "at") ?_)
    have hin : ∀ x, ab x → x.length ≤ 1000000 → F_in_task B.K [.str (tx t), .str (tx x)] (fun s => s.toD = some (.bl (inT t x))) (fun _ => False) := fun x hx hl => ⟨t, x, rfl, hl, fun q => absurd ht q, fun _ q => absurd (ab_in hx) q, fun _ _ => rfl⟩
    refine sv_seq (sv_for enc (L ++ [m, ot]) (evi_list (ev_eq (ev_op (a := .lst (L.map enc)) (b := .lst [enc m, enc ot]) (c := .lst (L.map enc ++ [enc m, enc ot])) (by walk_at "ev") (by walk_at "ev") (rv_addL (by rw [List.length_map]; simp; omega))) (by rw [List.map_append]; rfl))) (fun r Γ' => ∃ (c10 c11 : Sl), Γ' = [.dat (.lst (ns.map .int)), rowD, .dat (.lst (L.map enc)), c3, .dat (.int (k : Nat)), .dat (.str (tx half)), .dat (.str (tx t)), .dat (.str (tx m)), .dat (.int (d4 % mx)), .dat (.str (tx ot)), c10, c11, .un, .un]) ⟨_, _, rfl⟩ ?_ ?_)
    · rintro Γ' ⟨c10, c11, rfl⟩
      have hrf : F__law_is_refused B.K [.str (tx t), .str (tx (cut half none (some 9) ++ [99])), .int ((cut half none (some 9)).length : Nat)] (fun s => s.toD = some (.bl true)) (fun _ => False) :=
        ⟨t, _, _, rfl, by rw [List.length_append]; simp; omega, .inr ⟨ht, not_ab_c _, by rw [bad_c _ hab9]⟩, rfl⟩
      refine sv_if (p := false) (evt_eq (evt_or (p := false) (q := false) (evt_eq (evt_not (evt_b (ev_callS (by walk_at "ev") (hin m hmab (by omega))))) (by rw [hmt]; rfl)) fun _ => evt_eq (evt_not (evt_b (ev_callS (by walk_at "ev") hrf))) rfl) rfl) (fun h => nomatch h) (fun _ => sv_next ⟨_, _, _, _, _, _, _, rfl⟩)
    · rintro x r Γ' ⟨pre, hpre⟩ ⟨c10, c11, rfl⟩
      have hxx : ab x ∧ x.length ≤ 1000000 := by
        have hm : x ∈ L ++ [m, ot] := by rw [hpre]; simp
        rcases List.mem_append.mp hm with q | q
        · obtain ⟨q1, q2⟩ := hL x q
          exact ⟨q1, by omega⟩
        · have : x = m ∨ x = ot := by simpa using q
          rcases this with rfl | rfl
          · exact ⟨hmab, by omega⟩
          · exact ⟨hoab, by omega⟩
      refine ⟨_, evg_name (by walk_at "at"), ?_⟩
      refine sv_seq (sv_set (ev_callS (by walk_at "ev") (hin x hxx.1 hxx.2)) (by walk_at "at") ?_)
      have hlt : F__law_in_task B.K [.str (tx t), .str (tx x)] (fun s => s.toD = some (.bl (inT t x))) (fun _ => False) := ⟨t, x, rfl, hxx.2, by rw [lawT_eq t x hxx.1]; rfl⟩
      refine sv_if (p := false) (evt_eq (evt_or (by walk_at "ev") fun _ => evt_test (ev_op (by walk_at "ev") (ev_callS (by walk_at "ev") hlt) rv_neB)) (by simp)) (fun h => nomatch h) (fun _ => sv_next ⟨_, _, rfl⟩)
end L

namespace L
open PySem PySem.Spec PyProof.Rows L2 Z

section
variable {P : Program} {w : World} {K : PySem.W.Frag} {mg : Str → Option Value} {base : Heap}
theorem dx_BadText (T : Tx K mg) {fd : FuncData} (FD : FunD K "__init__" "BadText.__init__" (defArgs s_BadText) (defBody s_BadText) (defScope s_BadText) [] [] (He.ma K (He.ga K "BadText") "__init__") fd) : Dx P w K mg base "BadText" (He.ga K "BadText") ["self", "index"] (spX1 (He.ga K "BadText") "index") :=
  ⟨T.x_BadText, T.g_BadText, _, fd, FD.ok sc_BadText spX1_len (fun cdv A outer s H vs Q E hr h => ⟨_, pss_one (ps_ost (pv 0) (pv 1)), init1 T.x_BadText T.n_BadText_index h⟩), T.i_BadText.1, T.i_BadText.2, FD.bindsN fun _ _ _ _ _ _ us hl => match us, hl with | [_, _], _ => rfl⟩
theorem dx_UnknownTask (T : Tx K mg) {fd : FuncData} (FD : FunD K "__init__" "UnknownTask.__init__" (defArgs s_UnknownTask) (defBody s_UnknownTask) (defScope s_UnknownTask) [] [] (He.ma K (He.ga K "UnknownTask") "__init__") fd) : Dx P w K mg base "UnknownTask" (He.ga K "UnknownTask") ["self", "task"] (spX1 (He.ga K "UnknownTask") "task") :=
  ⟨T.x_UnknownTask, T.g_UnknownTask, _, fd, FD.ok sc_UnknownTask spX1_len (fun cdv A outer s H vs Q E hr h => ⟨_, pss_one (ps_ost (pv 0) (pv 1)), init1 T.x_UnknownTask T.n_UnknownTask_task h⟩), T.i_UnknownTask.1, T.i_UnknownTask.2, FD.bindsN fun _ _ _ _ _ _ us hl => match us, hl with | [_, _], _ => rfl⟩
theorem ok__law_digits (T : Tx K mg)  {fd : FuncData} (FD : FunD K "_law_digits" "_law_digits" (defArgs s__law_digits) (defBody s__law_digits) (defScope s__law_digits) [] [] (He.ga K "_law_digits") fd) (gm : mg "_law_digits" = some (.ref (He.ga K "_law_digits"))) : Df P w K mg base "_law_digits" ["cell", "sizes"] 1 (F__law_digits K) :=
  ⟨_, fd, FD.ok sc__law_digits (spz_len (len__law_digits (K := K))) (fun cdv A outer s H vs Q E hr h => ⟨_, ps__law_digits T  hr, sv_def h fun G ds R X hF => pure__law_digits ⟨K, G, H⟩ T _ ds R X hF⟩), gm, FD.kp, FD.bindsN fun _ _ _ _ _ _ us hl => match us, hl with | [_, _], _ => rfl⟩
theorem ok__law_long_text (T : Tx K mg)  {fd : FuncData} (FD : FunD K "_law_long_text" "_law_long_text" (defArgs s__law_long_text) (defBody s__law_long_text) (defScope s__law_long_text) [] [] (He.ga K "_law_long_text") fd) (gm : mg "_law_long_text" = some (.ref (He.ga K "_law_long_text"))) : Df P w K mg base "_law_long_text" ["letters", "cell", "size"] 1 (F__law_long_text K) :=
  ⟨_, fd, FD.ok sc__law_long_text (spz_len (len__law_long_text (K := K))) (fun cdv A outer s H vs Q E hr h => ⟨_, ps__law_long_text T  hr, sv_def h fun G ds R X hF => pure__law_long_text ⟨K, G, H⟩ T _ ds R X hF⟩), gm, FD.kp, FD.bindsN fun _ _ _ _ _ _ us hl => match us, hl with | [_, _, _], _ => rfl⟩
theorem ok_task_names (T : Tx K mg)  {fd : FuncData} (FD : FunD K "task_names" "task_names" (defArgs s_task_names) (defBody s_task_names) (defScope s_task_names) [] [] (He.ga K "task_names") fd) (gm : mg "task_names" = some (.ref (He.ga K "task_names"))) : Df P w K mg base "task_names" [] 1 (F_task_names K) :=
  ⟨_, fd, FD.ok sc_task_names (spz_len (len_task_names (K := K))) (fun cdv A outer s H vs Q E hr h => ⟨_, ps_task_names T  hr, sv_def h fun G ds R X hF => pure_task_names ⟨K, G, H⟩ T _ ds R X hF⟩), gm, FD.kp, FD.bindsN fun _ _ _ _ _ _ us hl => match us, hl with | [], _ => rfl⟩
theorem ok__law_cell (T : Tx K mg)  {fd : FuncData} (FD : FunD K "_law_cell" "_law_cell" (defArgs s__law_cell) (defBody s__law_cell) (defScope s__law_cell) [] [] (He.ga K "_law_cell") fd) (gm : mg "_law_cell" = some (.ref (He.ga K "_law_cell"))) : Df P w K mg base "_law_cell" ["script", "k"] 1 (F__law_cell K) :=
  ⟨_, fd, FD.ok sc__law_cell (spz_len (len__law_cell (K := K))) (fun cdv A outer s H vs Q E hr h => ⟨_, ps__law_cell T  hr, sv_def h fun G ds R X hF => pure__law_cell ⟨K, G, H⟩ T _ ds R X hF⟩), gm, FD.kp, FD.bindsN fun _ _ _ _ _ _ us hl => match us, hl with | [_, _], _ => rfl⟩
theorem ok__law_member (T : Tx K mg)  {fd : FuncData} (FD : FunD K "_law_member" "_law_member" (defArgs s__law_member) (defBody s__law_member) (defScope s__law_member) [] [] (He.ga K "_law_member") fd) (gm : mg "_law_member" = some (.ref (He.ga K "_law_member"))) : Df P w K mg base "_law_member" ["task", "row", "text"] 1 (F__law_member K) :=
  ⟨_, fd, FD.ok sc__law_member (spz_len (len__law_member (K := K))) (fun cdv A outer s H vs Q E hr h => ⟨_, ps__law_member T  hr, sv_def h fun G ds R X hF => pure__law_member ⟨K, G, H⟩ T _ ds R X hF⟩), gm, FD.kp, FD.bindsN fun _ _ _ _ _ _ us hl => match us, hl with | [_, _, _], _ => rfl⟩
theorem ok_check_task (T : Tx K mg) (D_UnknownTask : Dx P w K mg base "UnknownTask" (He.ga K "UnknownTask") ["self", "task"] (spX1 (He.ga K "UnknownTask") "task")) {fd : FuncData} (FD : FunD K "check_task" "check_task" (defArgs s_check_task) (defBody s_check_task) (defScope s_check_task) [] [] (He.ga K "check_task") fd) (gm : mg "check_task" = some (.ref (He.ga K "check_task"))) : Df P w K mg base "check_task" ["task"] 3 (F_check_task K) :=
  ⟨_, fd, FD.ok sc_check_task (spz_len (len_check_task (K := K))) (fun cdv A outer s H vs Q E hr h => ⟨_, ps_check_task T D_UnknownTask hr, sv_def h fun G ds R X hF => pure_check_task ⟨K, G, H⟩ T _ ds R X hF⟩), gm, FD.kp, FD.bindsN fun _ _ _ _ _ _ us hl => match us, hl with | [_], _ => rfl⟩
theorem ok_check_text (T : Tx K mg) (D_BadText : Dx P w K mg base "BadText" (He.ga K "BadText") ["self", "index"] (spX1 (He.ga K "BadText") "index")) {fd : FuncData} (FD : FunD K "check_text" "check_text" (defArgs s_check_text) (defBody s_check_text) (defScope s_check_text) [] [] (He.ga K "check_text") fd) (gm : mg "check_text" = some (.ref (He.ga K "check_text"))) : Df P w K mg base "check_text" ["letters", "text"] 3 (F_check_text K) :=
  ⟨_, fd, FD.ok sc_check_text (spz_len (len_check_text (K := K))) (fun cdv A outer s H vs Q E hr h => ⟨_, ps_check_text T D_BadText hr, sv_def h fun G ds R X hF => pure_check_text ⟨K, G, H⟩ T _ ds R X hF⟩), gm, FD.kp, FD.bindsN fun _ _ _ _ _ _ us hl => match us, hl with | [_, _], _ => rfl⟩
theorem ok_in_task (T : Tx K mg) (D_check_task : Df P w K mg base "check_task" ["task"] 3 (F_check_task K)) (D_check_text : Df P w K mg base "check_text" ["letters", "text"] 3 (F_check_text K)) {fd : FuncData} (FD : FunD K "in_task" "in_task" (defArgs s_in_task) (defBody s_in_task) (defScope s_in_task) [] [] (He.ga K "in_task") fd) (gm : mg "in_task" = some (.ref (He.ga K "in_task"))) : Df P w K mg base "in_task" ["task", "text"] 4 (F_in_task K) :=
  ⟨_, fd, FD.ok sc_in_task (spz_len (len_in_task (K := K))) (fun cdv A outer s H vs Q E hr h => ⟨_, ps_in_task T D_check_task D_check_text hr, sv_def h fun G ds R X hF => pure_in_task ⟨K, G, H⟩ T _ ds R X hF⟩), gm, FD.kp, FD.bindsN fun _ _ _ _ _ _ us hl => match us, hl with | [_, _], _ => rfl⟩
theorem ok__law_whole (T : Tx K mg)  {fd : FuncData} (FD : FunD K "_law_whole" "_law_whole" (defArgs s__law_whole) (defBody s__law_whole) (defScope s__law_whole) [] [] (He.ga K "_law_whole") fd) (gm : mg "_law_whole" = some (.ref (He.ga K "_law_whole"))) : Df P w K mg base "_law_whole" ["value"] 1 (F__law_whole K) :=
  ⟨_, fd, FD.ok sc__law_whole (spz_len (len__law_whole (K := K))) (fun cdv A outer s H vs Q E hr h => ⟨_, ps__law_whole T  hr, sv_def h fun G ds R X hF => pure__law_whole ⟨K, G, H⟩ T _ ds R X hF⟩), gm, FD.kp, FD.bindsN fun _ _ _ _ _ _ us hl => match us, hl with | [_], _ => rfl⟩
theorem ok__law_is_refused (T : Tx K mg) (S__law_whole : Ds P w K mg base "_law_whole" ["value"] 1 (F__law_whole K)) (D_in_task : Df P w K mg base "in_task" ["task", "text"] 4 (F_in_task K)) {fd : FuncData} (FD : FunD K "_law_is_refused" "_law_is_refused" (defArgs s__law_is_refused) (defBody s__law_is_refused) (defScope s__law_is_refused) [] [] (He.ga K "_law_is_refused") fd) (gm : mg "_law_is_refused" = some (.ref (He.ga K "_law_is_refused"))) : Df P w K mg base "_law_is_refused" ["task", "text", "due"] 5 (F__law_is_refused K) :=
  ⟨_, fd, FD.ok sc__law_is_refused (spz_len (len__law_is_refused (K := K))) (fun cdv A outer s H vs Q E hr h => ⟨_, ps__law_is_refused T S__law_whole D_in_task hr, sv_def h fun G ds R X hF => pure__law_is_refused ⟨K, G, H⟩ T _ ds R X hF⟩), gm, FD.kp, FD.bindsN fun _ _ _ _ _ _ us hl => match us, hl with | [_, _, _], _ => rfl⟩
theorem ok__law_task_names (T : Tx K mg)  {fd : FuncData} (FD : FunD K "_law_task_names" "_law_task_names" (defArgs s__law_task_names) (defBody s__law_task_names) (defScope s__law_task_names) [] [] (He.ga K "_law_task_names") fd) (gm : mg "_law_task_names" = some (.ref (He.ga K "_law_task_names"))) : Df P w K mg base "_law_task_names" [] 1 (F__law_task_names K) :=
  ⟨_, fd, FD.ok sc__law_task_names (spz_len (len__law_task_names (K := K))) (fun cdv A outer s H vs Q E hr h => ⟨_, ps__law_task_names T  hr, sv_def h fun G ds R X hF => pure__law_task_names ⟨K, G, H⟩ T _ ds R X hF⟩), gm, FD.kp, FD.bindsN fun _ _ _ _ _ _ us hl => match us, hl with | [], _ => rfl⟩
theorem ok__law_texts (T : Tx K mg)  {fd : FuncData} (FD : FunD K "_law_texts" "_law_texts" (defArgs s__law_texts) (defBody s__law_texts) (defScope s__law_texts) [] [] (He.ga K "_law_texts") fd) (gm : mg "_law_texts" = some (.ref (He.ga K "_law_texts"))) : Df P w K mg base "_law_texts" ["letters", "length"] 1 (F__law_texts K) :=
  ⟨_, fd, FD.ok sc__law_texts (spz_len (len__law_texts (K := K))) (fun cdv A outer s H vs Q E hr h => ⟨_, ps__law_texts T  hr, sv_def h fun G ds R X hF => pure__law_texts ⟨K, G, H⟩ T _ ds R X hF⟩), gm, FD.kp, FD.bindsN fun _ _ _ _ _ _ us hl => match us, hl with | [_, _], _ => rfl⟩
theorem ok__law_in_task (T : Tx K mg)  {fd : FuncData} (FD : FunD K "_law_in_task" "_law_in_task" (defArgs s__law_in_task) (defBody s__law_in_task) (defScope s__law_in_task) [] [] (He.ga K "_law_in_task") fd) (gm : mg "_law_in_task" = some (.ref (He.ga K "_law_in_task"))) : Df P w K mg base "_law_in_task" ["task", "text"] 1 (F__law_in_task K) :=
  ⟨_, fd, FD.ok sc__law_in_task (spz_len (len__law_in_task (K := K))) (fun cdv A outer s H vs Q E hr h => ⟨_, ps__law_in_task T  hr, sv_def h fun G ds R X hF => pure__law_in_task ⟨K, G, H⟩ T _ ds R X hF⟩), gm, FD.kp, FD.bindsN fun _ _ _ _ _ _ us hl => match us, hl with | [_, _], _ => rfl⟩
theorem okf_law (T : Tx K mg) (D__law_cell : Df P w K mg base "_law_cell" ["script", "k"] 1 (F__law_cell K)) (D__law_digits : Df P w K mg base "_law_digits" ["cell", "sizes"] 1 (F__law_digits K)) (D__law_in_task : Df P w K mg base "_law_in_task" ["task", "text"] 1 (F__law_in_task K)) (D__law_is_refused : Df P w K mg base "_law_is_refused" ["task", "text", "due"] 5 (F__law_is_refused K)) (D__law_long_text : Df P w K mg base "_law_long_text" ["letters", "cell", "size"] 1 (F__law_long_text K)) (D__law_member : Df P w K mg base "_law_member" ["task", "row", "text"] 1 (F__law_member K)) (D__law_task_names : Df P w K mg base "_law_task_names" [] 1 (F__law_task_names K)) (D__law_texts : Df P w K mg base "_law_texts" ["letters", "length"] 1 (F__law_texts K)) (D_in_task : Df P w K mg base "in_task" ["task", "text"] 4 (F_in_task K)) (D_task_names : Df P w K mg base "task_names" [] 1 (F_task_names K)) {fd : FuncData} (FD : FunD K "law" "law" (defArgs s_law) (defBody s_law) (defScope s_law) [] [] (He.ga K "law") fd) : FnOk P w K mg base (L2.CX P w) 6 (He.ga K "law") fd ["script"] (spz K Flaw) :=
  FD.ok sc_law (spz_len (len_law (K := K))) (fun cdv A outer s H vs Q E hr h => ⟨_, ps_law T D__law_cell D__law_digits D__law_in_task D__law_is_refused D__law_long_text D__law_member D__law_task_names D__law_texts D_in_task D_task_names hr, sv_def h fun G ds R X hF => pure_law ⟨K, G, H⟩ T _ ds R X hF⟩)
theorem oks__law_whole (T : Tx K mg) {fd : FuncData} (FD : FunD K "_law_whole" "_law_whole" (defArgs s__law_whole) (defBody s__law_whole) (defScope s__law_whole) [] [] (He.ga K "_law_whole") fd) (gm : mg "_law_whole" = some (.ref (He.ga K "_law_whole"))) : Ds P w K mg base "_law_whole" ["value"] 1 (F__law_whole K) :=
  ⟨_, fd, okS FD sc__law_whole (spz_len (len__law_whole (K := K))) (fun cdv A outer s H vs Q E p hr h => ⟨_, psH__law_whole T hr, sv_def h fun G ds R X hF => pure__law_whole ⟨K, G, H⟩ T _ ds R X hF⟩), gm, FD.kp, FD.bindsN fun _ _ _ _ _ _ us hl => match us, hl with | [_], _ => rfl⟩
end
def d__law_digits : He.DefD := ⟨("_law_digits", none), "_law_digits", "_law_digits", defArgs s__law_digits, defBody s__law_digits, defScope s__law_digits, [], []⟩
def d__law_long_text : He.DefD := ⟨("_law_long_text", none), "_law_long_text", "_law_long_text", defArgs s__law_long_text, defBody s__law_long_text, defScope s__law_long_text, [], []⟩
def d_task_names : He.DefD := ⟨("task_names", none), "task_names", "task_names", defArgs s_task_names, defBody s_task_names, defScope s_task_names, [], []⟩
def d__law_cell : He.DefD := ⟨("_law_cell", none), "_law_cell", "_law_cell", defArgs s__law_cell, defBody s__law_cell, defScope s__law_cell, [], []⟩
def d__law_member : He.DefD := ⟨("_law_member", none), "_law_member", "_law_member", defArgs s__law_member, defBody s__law_member, defScope s__law_member, [], []⟩
def d_check_task : He.DefD := ⟨("check_task", none), "check_task", "check_task", defArgs s_check_task, defBody s_check_task, defScope s_check_task, [], []⟩
def d_check_text : He.DefD := ⟨("check_text", none), "check_text", "check_text", defArgs s_check_text, defBody s_check_text, defScope s_check_text, [], []⟩
def d_in_task : He.DefD := ⟨("in_task", none), "in_task", "in_task", defArgs s_in_task, defBody s_in_task, defScope s_in_task, [], []⟩
def d__law_whole : He.DefD := ⟨("_law_whole", none), "_law_whole", "_law_whole", defArgs s__law_whole, defBody s__law_whole, defScope s__law_whole, [], []⟩
def d__law_is_refused : He.DefD := ⟨("_law_is_refused", none), "_law_is_refused", "_law_is_refused", defArgs s__law_is_refused, defBody s__law_is_refused, defScope s__law_is_refused, [], []⟩
def d__law_task_names : He.DefD := ⟨("_law_task_names", none), "_law_task_names", "_law_task_names", defArgs s__law_task_names, defBody s__law_task_names, defScope s__law_task_names, [], []⟩
def d__law_texts : He.DefD := ⟨("_law_texts", none), "_law_texts", "_law_texts", defArgs s__law_texts, defBody s__law_texts, defScope s__law_texts, [], []⟩
def d__law_in_task : He.DefD := ⟨("_law_in_task", none), "_law_in_task", "_law_in_task", defArgs s__law_in_task, defBody s__law_in_task, defScope s__law_in_task, [], []⟩
def d_law : He.DefD := ⟨("law", none), "law", "law", defArgs s_law, defBody s_law, defScope s_law, [], []⟩
def d_BadText : He.DefD := ⟨("BadText", some "__init__"), "__init__", "BadText.__init__", defArgs s_BadText, defBody s_BadText, defScope s_BadText, [], []⟩
def d_UnknownTask : He.DefD := ⟨("UnknownTask", some "__init__"), "__init__", "UnknownTask.__init__", defArgs s_UnknownTask, defBody s_UnknownTask, defScope s_UnknownTask, [], []⟩
def fn : List He.DefD := [d_BadText, d_UnknownTask, d__law_digits, d__law_long_text, d_task_names, d__law_cell, d__law_member, d_check_task, d_check_text, d_in_task, d__law_whole, d__law_is_refused, d__law_task_names, d__law_texts, d__law_in_task, d_law]
def factsAll : List (PySem.W.Frag → Bool) := facts ++ [fun K => gloB K "_law_digits", fun K => gloB K "_law_long_text", fun K => gloB K "task_names", fun K => gloB K "_law_cell", fun K => gloB K "_law_member", fun K => gloB K "check_task", fun K => gloB K "check_text", fun K => gloB K "in_task", fun K => gloB K "_law_whole", fun K => gloB K "_law_is_refused", fun K => gloB K "_law_task_names", fun K => gloB K "_law_texts", fun K => gloB K "_law_in_task", fun K => gloB K "law"]
def loose0 : List PySem.Str := ["ClockError", "BadText", "UnknownTask", "check_text", "TASKS", "task_names", "check_task", "in_task", "_law_whole", "_law_cell", "_law_digits", "_law_long_text", "_law_texts", "_law_task_names", "_law_in_task", "_law_member", "_law_is_refused"]
def loose : List PySem.Str := loose0
abbrev R : PySem.W.OpenRow := PySem.W.OpenLaw.row PySem.Challenge.rw_straightclock_k78_tasks
abbrev hk : PySem.W.Hook := hookZ 7 factsAll fn
def ob (s : PySem.W.SharedT) : He.AlD := obsZG 7 factsAll fn (HandSHeadRun.getT s)
theorem ob_eq (s : PySem.W.SharedT) : ob s = hk.obs s.abs := obsZG_eq (HandSHeadRun.getT_eq s)
theorem run (w : World) : HandSHeadRun.RunEq R (PySem.W.view R.prog [21]) hk ob 4000 loose w := by
  intro os
  kernel_rfl
theorem fin {P : Program} {w : World} {K : PySem.W.Frag} {h : Heap} {mg : Str → Option Value} {f : Addr} (X : K.In h) (G : h.Ns mainGlobals mg) (hfa : mg ("law" : Str) = some (.ref f)) (c : SaysZ factsAll fn K) :
    ∃ fd : FuncData, (∀ (s : Shared) (v : Value), BindsTo s fd ⟨[v], []⟩ [("script", v)]) ∧ ∀ base : Heap, K.In base → base.Ns mainGlobals mg → FnOk P w K mg base (L2.CX P w) 6 f fd ["script"] (spz K Flaw) := by
  have T : Tx K mg := tx_of X G fun i f h => c.fact i (fact_app h)
  obtain ⟨fd_BadText, FD_BadText⟩ := c.def_ 0 (d := d_BadText) rfl
  obtain ⟨fd_UnknownTask, FD_UnknownTask⟩ := c.def_ 1 (d := d_UnknownTask) rfl
  obtain ⟨fd__law_digits, FD__law_digits⟩ := c.def_ 2 (d := d__law_digits) rfl
  obtain ⟨fd__law_long_text, FD__law_long_text⟩ := c.def_ 3 (d := d__law_long_text) rfl
  obtain ⟨fd_task_names, FD_task_names⟩ := c.def_ 4 (d := d_task_names) rfl
  obtain ⟨fd__law_cell, FD__law_cell⟩ := c.def_ 5 (d := d__law_cell) rfl
  obtain ⟨fd__law_member, FD__law_member⟩ := c.def_ 6 (d := d__law_member) rfl
  obtain ⟨fd_check_task, FD_check_task⟩ := c.def_ 7 (d := d_check_task) rfl
  obtain ⟨fd_check_text, FD_check_text⟩ := c.def_ 8 (d := d_check_text) rfl
  obtain ⟨fd_in_task, FD_in_task⟩ := c.def_ 9 (d := d_in_task) rfl
  obtain ⟨fd__law_whole, FD__law_whole⟩ := c.def_ 10 (d := d__law_whole) rfl
  obtain ⟨fd__law_is_refused, FD__law_is_refused⟩ := c.def_ 11 (d := d__law_is_refused) rfl
  obtain ⟨fd__law_task_names, FD__law_task_names⟩ := c.def_ 12 (d := d__law_task_names) rfl
  obtain ⟨fd__law_texts, FD__law_texts⟩ := c.def_ 13 (d := d__law_texts) rfl
  obtain ⟨fd__law_in_task, FD__law_in_task⟩ := c.def_ 14 (d := d__law_in_task) rfl
  obtain ⟨fd_law, FD_law⟩ := c.def_ 15 (d := d_law) rfl
  have gm__law_digits := He.glo_ok X G (x := "_law_digits") (c.fact 29 (f := fun K => gloB K "_law_digits") rfl)
  have gm__law_long_text := He.glo_ok X G (x := "_law_long_text") (c.fact 30 (f := fun K => gloB K "_law_long_text") rfl)
  have gm_task_names := He.glo_ok X G (x := "task_names") (c.fact 31 (f := fun K => gloB K "task_names") rfl)
  have gm__law_cell := He.glo_ok X G (x := "_law_cell") (c.fact 32 (f := fun K => gloB K "_law_cell") rfl)
  have gm__law_member := He.glo_ok X G (x := "_law_member") (c.fact 33 (f := fun K => gloB K "_law_member") rfl)
  have gm_check_task := He.glo_ok X G (x := "check_task") (c.fact 34 (f := fun K => gloB K "check_task") rfl)
  have gm_check_text := He.glo_ok X G (x := "check_text") (c.fact 35 (f := fun K => gloB K "check_text") rfl)
  have gm_in_task := He.glo_ok X G (x := "in_task") (c.fact 36 (f := fun K => gloB K "in_task") rfl)
  have gm__law_whole := He.glo_ok X G (x := "_law_whole") (c.fact 37 (f := fun K => gloB K "_law_whole") rfl)
  have gm__law_is_refused := He.glo_ok X G (x := "_law_is_refused") (c.fact 38 (f := fun K => gloB K "_law_is_refused") rfl)
  have gm__law_task_names := He.glo_ok X G (x := "_law_task_names") (c.fact 39 (f := fun K => gloB K "_law_task_names") rfl)
  have gm__law_texts := He.glo_ok X G (x := "_law_texts") (c.fact 40 (f := fun K => gloB K "_law_texts") rfl)
  have gm__law_in_task := He.glo_ok X G (x := "_law_in_task") (c.fact 41 (f := fun K => gloB K "_law_in_task") rfl)
  have gm_law := He.glo_ok X G (x := "law") (c.fact 42 (f := fun K => gloB K "law") rfl)
  have e := hfa.symm.trans gm_law
  cases e
  have b := FunD.bindsA (ps := ["script"]) FD_law fun _ _ _ _ _ _ us hl => match us, hl with | [_], _ => rfl
  refine ⟨fd_law, fun s v => b s [v] rfl, fun base _ _ => ?_⟩
  have D_BadText : Dx P w K mg base _ _ _ _ := dx_BadText T FD_BadText
  have D_UnknownTask : Dx P w K mg base _ _ _ _ := dx_UnknownTask T FD_UnknownTask
  have D__law_digits : Df P w K mg base _ _ _ _ := ok__law_digits T  FD__law_digits gm__law_digits
  have D__law_long_text : Df P w K mg base _ _ _ _ := ok__law_long_text T  FD__law_long_text gm__law_long_text
  have D_task_names : Df P w K mg base _ _ _ _ := ok_task_names T  FD_task_names gm_task_names
  have D__law_cell : Df P w K mg base _ _ _ _ := ok__law_cell T  FD__law_cell gm__law_cell
  have D__law_member : Df P w K mg base _ _ _ _ := ok__law_member T  FD__law_member gm__law_member
  have D_check_task : Df P w K mg base _ _ _ _ := ok_check_task T D_UnknownTask FD_check_task gm_check_task
  have D_check_text : Df P w K mg base _ _ _ _ := ok_check_text T D_BadText FD_check_text gm_check_text
  have D_in_task : Df P w K mg base _ _ _ _ := ok_in_task T D_check_task D_check_text FD_in_task gm_in_task
  have S__law_whole : Ds P w K mg base _ _ _ _ := oks__law_whole T FD__law_whole gm__law_whole
  have D__law_whole : Df P w K mg base _ _ _ _ := ok__law_whole T  FD__law_whole gm__law_whole
  have D__law_is_refused : Df P w K mg base _ _ _ _ := ok__law_is_refused T S__law_whole D_in_task FD__law_is_refused gm__law_is_refused
  have D__law_task_names : Df P w K mg base _ _ _ _ := ok__law_task_names T  FD__law_task_names gm__law_task_names
  have D__law_texts : Df P w K mg base _ _ _ _ := ok__law_texts T  FD__law_texts gm__law_texts
  have D__law_in_task : Df P w K mg base _ _ _ _ := ok__law_in_task T  FD__law_in_task gm__law_in_task
  exact okf_law T D__law_cell D__law_digits D__law_in_task D__law_is_refused D__law_long_text D__law_member D__law_task_names D__law_texts D_in_task D_task_names FD_law
end L
open PySem PySem.W PySem.Calls PyProof.Rows
theorem PySem.Challenge.cw_straightclock_k78_tasks_holds : PySem.Challenge.rw_straightclock_k78_tasks.Holds := by
  w_on; o_law
  refine HandSHeadRun.head_any (r := OpenLaw.row PySem.Challenge.rw_straightclock_k78_tasks) (q := view (OpenLaw.row PySem.Challenge.rw_straightclock_k78_tasks).prog [21]) (H := L.hk) (ob := L.ob) (M := 4000) (loose := L.loose) (d := HandSHeadRun.topDef (OpenLaw.row PySem.Challenge.rw_straightclock_k78_tasks).prog 21) (kwd := []) L.ob_eq
    (by kernel_rfl) (fun s => by kernel_rfl) L.run (by kernel_rfl) (by kernel_rfl) (by kernel_rfl) (by rfl) (by first | assumption | decide +kernel) (by decide +kernel) ⟨rfl, rfl, rfl, rfl, rfl, by decide +kernel⟩ ?hw ?hc
  case hw => w_witness2
  case hc =>
    refine Z.walk_ofX (l := PySem.Challenge.rw_straightclock_k78_tasks) (k := 6) (x := "script") rfl (by kernel_rfl) ⟨rfl, by decide, by decide⟩ ?_
    intro w mg fa h Y G hmg0
    obtain ⟨K, KX, c⟩ := Y
    have hmg : mg ("law" : PySem.Str) = some (.ref fa) := by
      have e : (HandSHeadRun.topDef (OpenLaw.row PySem.Challenge.rw_straightclock_k78_tasks).prog 21).name = ("law" : PySem.Str) := by kernel_rfl
      rw [← e]
      exact hmg0
    obtain ⟨fd, hb, hF⟩ := L.fin (P := (PySem.Challenge.rw_straightclock_k78_tasks).prog) (w := w) KX G hmg c
    exact ⟨K, fd, KX, hb, hF⟩
