import PyProof.Rows.All
import Wide.All
import OpenK.AllK
import Wide.FinOn
import HandS.Base
import HandS.Call
import HandS.List
import HandS.Comp
import HandS.Ends
import HandS.Dict
import HandS.Iter
import HandS.Text
import HandS.More
import HandS.Exc
import HandS.ExcOwn
import HandS.ExcInit
import HandS.ExcField
import HandS.ExcIs
import HandS.IsInst
import HandS.TryOnly
import HandS.TryMany
import HandS.Words
import HandS.WordsList
import HandS.WordsDict
import HandS.WordsExc
import HandS.Defaults
import HandS.Walk
import HandS.Wide
import HandS.WideBits
import HandS.TupSets
import HandS.Set
import HandS.Strs
import HandS.SetFor
import HandS.SetKeys
import HandS.DictComp
import HandS.TupAny
import HandS.TupMul
import HandS.Style
import HandS.Deep
import HandS.Flow
import HandS.Conv
import HandS.Codes
import HandS.StrMore
import HandS.Small
import HandS.HotCalls
import HandS.Head0
import HandS.Head1
import HandS.Head2
import HandS.HeadEnd
import HandS.HeadHook1
import HandS.HeadHook2
import HandS.HeadHook3
import HandS.CallSlots
import HandS.FStr
import HandS.Replace
import KE.GoesEnum
import PySem.Challenge.RW_straightclock_k82_two_tapes_played
set_option Elab.async false
set_option linter.all false
set_option maxRecDepth 100000
set_option maxHeartbeats 4000000
/-! Z1: data, what stands for data, the frame between heaps, slots. -/
namespace Z
open PySem PySem.Spec PyProof.Rows L2

inductive D where
  | non | bl (b : Bool) | int (i : Int) | str (x : Str) | lst (l : List D) | tup (l : List D) | obj (C : Addr) (fs : List (Str × D)) | ty (n : String) | ref (a : Addr) | xc (a d : Addr) (fs : List (Str × D)) | dk (ks : List (Key × D))

mutual
inductive Rp (K : PySem.W.Frag) (G : Hp) : V → D → Prop
  | non : Rp K G .non .non
  | bl (b : Bool) : Rp K G (.bl b) (.bl b)
  | int (i : Int) : Rp K G (.int i) (.int i)
  | str (x : Str) : Rp K G (.str x) (.str x)
  | ty (n : String) : Rp K G (.ty n) (.ty n)
  | ref (a : Addr) : Rp K G (.ref a) (.ref a)
  | lst {a : Addr} {xs : List V} {ds : List D} : SqL K G a xs → Rps K G xs ds → Rp K G (.ref a) (.lst ds)
  | tup {a : Addr} {xs : List V} {ds : List D} : SqT K G a xs → Rps K G xs ds → Rp K G (.ref a) (.tup ds)
  | obj {a C dx : Addr} {xs : List (Str × V)} {ds : List (Str × D)} : G a = some (.ins C dx xs) → Rfs K G xs ds → Rp K G (.ref a) (.obj C ds)
  | xc {a d : Addr} {xs : List (Str × V)} {ds : List (Str × D)} : G d = some (.xd xs) → Rfs K G xs ds → Rp K G (.ref a) (.xc a d ds)
  | dk {a : Addr} {xs : List (Key × V)} {ds : List (Key × D)} : Rd G a (.dK xs) → Rks K G xs ds → Rp K G (.ref a) (.dk ds)
inductive Rps (K : PySem.W.Frag) (G : Hp) : List V → List D → Prop
  | nil : Rps K G [] []
  | cons {v : V} {vs : List V} {d : D} {ds : List D} : Rp K G v d → Rps K G vs ds → Rps K G (v :: vs) (d :: ds)
inductive Rks (K : PySem.W.Frag) (G : Hp) : List (Key × V) → List (Key × D) → Prop
  | nil : Rks K G [] []
  | cons {k : Key} {v : V} {vs : List (Key × V)} {d : D} {ds : List (Key × D)} : Rp K G v d → Rks K G vs ds → Rks K G ((k, v) :: vs) ((k, d) :: ds)
inductive Rfs (K : PySem.W.Frag) (G : Hp) : List (Str × V) → List (Str × D) → Prop
  | nil : Rfs K G [] []
  | cons {f : Str} {v : V} {vs : List (Str × V)} {d : D} {ds : List (Str × D)} : Rp K G v d → Rfs K G vs ds → Rfs K G ((f, v) :: vs) ((f, d) :: ds)
end

section
variable {K : PySem.W.Frag} {G G' G2 H H' H2 : Hp}

theorem same_l {a : Addr} {xs : List V} (e : Same G G') (h : SqL K G a xs) : SqL K G' a xs := e.seq h
theorem same_r {a : Addr} {u : HO} (e : Same G G') (h : Rd G a u) : Rd G' a u := by
  rcases h with h | ⟨o, h⟩
  · exact .inl (e _ _ h)
  · exact .inr ⟨o, e _ _ h⟩
theorem same_t {a : Addr} {xs : List V} (e : Same G G') (h : SqT K G a xs) : SqT K G' a xs := by
  rcases h with (h | ⟨o, h⟩) | h
  · exact .inl (.inl (e _ _ h))
  · exact .inl (.inr ⟨o, e _ _ h⟩)
  · exact .inr h

mutual
theorem Rp.mono (e : Same G G') : ∀ {v : V} {d : D}, Rp K G v d → Rp K G' v d
  | _, _, .non => .non
  | _, _, .bl b => .bl b
  | _, _, .int i => .int i
  | _, _, .str x => .str x
  | _, _, .ty n => .ty n
  | _, _, .ref a => .ref a
  | _, _, .lst h r => .lst (same_l e h) (Rps.mono e r)
  | _, _, .tup h r => .tup (same_t e h) (Rps.mono e r)
  | _, _, .obj h r => .obj (e _ _ h) (Rfs.mono e r)
  | _, _, .xc h r => .xc (e _ _ h) (Rfs.mono e r)
  | _, _, .dk h r => .dk (same_r e h) (Rks.mono e r)
theorem Rps.mono (e : Same G G') : ∀ {v : List V} {d : List D}, Rps K G v d → Rps K G' v d
  | _, _, .nil => .nil
  | _, _, .cons h r => .cons (Rp.mono e h) (Rps.mono e r)
theorem Rks.mono (e : Same G G') : ∀ {v : List (Key × V)} {d : List (Key × D)}, Rks K G v d → Rks K G' v d
  | _, _, .nil => .nil
  | _, _, .cons h r => .cons (Rp.mono e h) (Rks.mono e r)
theorem Rfs.mono (e : Same G G') : ∀ {v : List (Str × V)} {d : List (Str × D)}, Rfs K G v d → Rfs K G' v d
  | _, _, .nil => .nil
  | _, _, .cons h r => .cons (Rp.mono e h) (Rfs.mono e r)
end

theorem Rps.length : ∀ {vs : List V} {ds : List D}, Rps K G vs ds → vs.length = ds.length
  | _, _, .nil => rfl
  | _, _, .cons _ r => congrArg (· + 1) r.length
theorem Rps.append : ∀ {vs ws : List V} {ds es : List D}, Rps K G vs ds → Rps K G ws es → Rps K G (vs ++ ws) (ds ++ es)
  | _, _, _, _, .nil, s => s
  | _, _, _, _, .cons h r, s => .cons h (r.append s)
theorem Rps.get : ∀ {vs : List V} {ds : List D} {i : Nat} {d : D}, Rps K G vs ds → ds[i]? = some d → ∃ v, vs[i]? = some v ∧ Rp K G v d
  | _, _, _, _, .nil, e => by simp at e
  | _, _, 0, _, .cons h _, e => by simp at e; subst e; exact ⟨_, rfl, h⟩
  | _, _, i + 1, d, .cons _ r, e => by
    obtain ⟨v, h1, h2⟩ := Rps.get (i := i) (d := d) r (by simpa using e)
    exact ⟨v, by simpa using h1, h2⟩
theorem Rps.get' : ∀ {vs : List V} {ds : List D} {i : Nat} {v : V}, Rps K G vs ds → vs[i]? = some v → ∃ d, ds[i]? = some d ∧ Rp K G v d
  | _, _, _, _, .nil, e => by simp at e
  | _, _, 0, _, .cons h _, e => by simp at e; subst e; exact ⟨_, rfl, h⟩
  | _, _, i + 1, v, .cons _ r, e => by
    obtain ⟨d, h1, h2⟩ := Rps.get' (i := i) (v := v) r (by simpa using e)
    exact ⟨d, by simpa using h1, h2⟩
theorem Rps.take : ∀ {vs : List V} {ds : List D} (n : Nat), Rps K G vs ds → Rps K G (vs.take n) (ds.take n)
  | _, _, 0, _ => by simp; exact .nil
  | _, _, _ + 1, .nil => .nil
  | _, _, n + 1, .cons h r => .cons h (r.take n)
theorem Rps.drop : ∀ {vs : List V} {ds : List D} (n : Nat), Rps K G vs ds → Rps K G (vs.drop n) (ds.drop n)
  | _, _, 0, r => r
  | _, _, _ + 1, .nil => .nil
  | _, _, n + 1, .cons _ r => r.drop n
theorem Rps.set {v : V} {d : D} (h : Rp K G v d) : ∀ {vs : List V} {ds : List D} (i : Nat), Rps K G vs ds → Rps K G (vs.set i v) (ds.set i d)
  | _, _, _, .nil => .nil
  | _, _, 0, .cons _ r => .cons h r
  | _, _, i + 1, .cons q r => .cons q (r.set h i)
theorem Rps.reverse : ∀ {vs : List V} {ds : List D}, Rps K G vs ds → Rps K G vs.reverse ds.reverse
  | _, _, .nil => .nil
  | _, _, .cons h r => by
    rw [List.reverse_cons, List.reverse_cons]
    exact r.reverse.append (.cons h .nil)
theorem Rfs.lookup : ∀ {vs : List (Str × V)} {ds : List (Str × D)} {f : Str} {d : D}, Rfs K G vs ds → ds.lookup f = some d → ∃ v, vs.lookup f = some v ∧ Rp K G v d
  | _, _, _, _, .nil, e => by simp at e
  | _, _, f, d, .cons (f := g) h r, e => by
    rw [List.lookup_cons] at e
    rw [List.lookup_cons]
    by_cases q : f = g
    · have : (f == g) = true := by simpa using q
      simp only [this] at e ⊢
      cases e
      exact ⟨_, rfl, h⟩
    · have : (f == g) = false := by simpa using q
      simp only [this] at e ⊢
      exact Rfs.lookup r e
theorem Rfs.length : ∀ {vs : List (Str × V)} {ds : List (Str × D)}, Rfs K G vs ds → vs.length = ds.length
  | _, _, .nil => rfl
  | _, _, .cons _ r => congrArg (· + 1) r.length

/-- lists of ints, of texts -/
theorem rps_ints : ∀ ns : List Int, Rps K G (ns.map V.int) (ns.map D.int)
  | [] => .nil
  | n :: r => .cons (.int n) (rps_ints r)
theorem rps_strs : ∀ ns : List Str, Rps K G (ns.map V.str) (ns.map D.str)
  | [] => .nil
  | n :: r => .cons (.str n) (rps_strs r)
theorem rps_ints_inv : ∀ {vs : List V} {ns : List Int}, Rps K G vs (ns.map D.int) → vs = ns.map V.int
  | _, [], h => by cases h; rfl
  | _, n :: r, h => by
    cases h with
    | cons h q =>
      cases h
      rw [rps_ints_inv q] <;> rfl
theorem rps_strs_inv : ∀ {vs : List V} {ns : List Str}, Rps K G vs (ns.map D.str) → vs = ns.map V.str
  | _, [], h => by cases h; rfl
  | _, n :: r, h => by
    cases h with
    | cons h q =>
      cases h
      rw [rps_strs_inv q] <;> rfl

/-- a datum that no heap bears -/
def flatD : D → Bool
  | .non => true | .bl _ => true | .int _ => true | .str _ => true | .ty _ => true | .ref _ => true | _ => false
theorem Rp.flat {v : V} {d : D} (f : flatD d = true) (h : Rp K G v d) : Rp K G' v d := by
  cases h with
  | non => exact .non
  | bl b => exact .bl b
  | int b => exact .int b
  | str b => exact .str b
  | ty b => exact .ty b
  | ref b => exact .ref b
  | lst => cases f
  | tup => cases f
  | obj => cases f
  | xc => cases f
  | dk => cases f

/-! ### the frame -/
structure Fw (G H G' H' : Hp) : Prop where
  g : Same G G'
  h : Same H H'
  e : Same G' H'
  n : ∀ a o, G' a = some o → G a = none → H a = none
theorem Same.back (s : Same H H') {a : Addr} (h : H' a = none) : H a = none := s.free h
theorem Fw.refl (e : Same G H) : Fw G H G H := ⟨Same.refl _, Same.refl _, e, fun _ _ h q => by rw [h] at q; cases q⟩
theorem Fw.trans (a : Fw G H G' H') (b : Fw G' H' G2 H2) : Fw G H G2 H2 := ⟨a.g.trans b.g, a.h.trans b.h, b.e, fun c o q n => by
  cases e : G' c with
  | some u => exact a.n c u e n
  | none => exact a.h.free (b.n c o q e)⟩
/-- a new object is laid, read-only -/
theorem Fw.new {a : Addr} {o : HO} (e : Same G H) (n : H a = none) : Fw G H (upd G a o) (upd H a o) := by
  have gn : G a = none := e.free n
  refine ⟨fun b u q => ?_, fun b u q => ?_, fun b u q => ?_, fun b u q m => ?_⟩
  · rw [upd_ne (ne_of_none q gn)]; exact q
  · rw [upd_ne (ne_of_none q n)]; exact q
  · by_cases z : b = a
    · subst z; rw [upd_same] at q; rw [upd_same]; exact q
    · rw [upd_ne z] at q; rw [upd_ne z]; exact e b u q
  · by_cases z : b = a
    · subst z; exact n
    · rw [upd_ne z, m] at q; cases q
/-- a new object is laid, one's own -/
theorem Fw.newO {a : Addr} {o : HO} (e : Same G H) (n : H a = none) : Fw G H G (upd H a o) := by
  refine ⟨Same.refl _, fun b u q => ?_, fun b u q => ?_, fun b u q m => ?_⟩
  · rw [upd_ne (ne_of_none q n)]; exact q
  · rw [upd_ne (ne_of_none (e b u q) n)]; exact e b u q
  · rw [m] at q; cases q
end
end Z

/-! Z2: slots, states, what a reading evaluates to. -/
namespace Z
open PySem PySem.Spec PyProof.Rows L2

inductive Ow where
  | lst (ds : List D) | dk (ks : List (Key × D)) | ins (C : Addr) (fs : List (Str × D)) (at_ : Option Addr)
def Ow.toD : Ow → D
  | .lst ds => .lst ds
  | .dk ks => .dk ks
  | .ins C fs _ => .obj C fs
abbrev Mem : Type := Addr → Option Ow
inductive Sl where
  | un | dat (d : D) | own (o : Ow) | mem (M : Mem)
def Sl.toD : Sl → Option D
  | .dat d => some d
  | .own w => some w.toD
  | .un => none
  | .mem _ => none
structure Xc where
  C : Addr
  fs : List (Str × D)
structure Bx where
  K : PySem.W.Frag
  G0 : Hp
  H0 : Hp
  F0 : Addr → Prop
def NoF : Addr → Prop := fun _ => False

def OwOk (K : PySem.W.Frag) (G : Hp) (a : Addr) : Ow → HO → Prop
  | .lst ds, u => ∃ xs, u = .lst xs ∧ Rps K G xs ds
  | .dk ks, u => ∃ kvs, u = .dK kvs ∧ Rks K G kvs ks
  | .ins C fs oa, u => (∀ b, oa = some b → b = a) ∧ ∃ dx xs, u = .ins C dx xs ∧ Rfs K G xs fs
def MemOk (K : PySem.W.Frag) (G H : Hp) (M : Mem) : Prop := ∀ a w, M a = some w → G a = none ∧ ∃ u, H a = some u ∧ OwOk K G a w u
def SlOk (K : PySem.W.Frag) (G H : Hp) : Sl → Option V → Prop
  | .un, _ => True
  | .dat d, o => ∃ v, o = some v ∧ Rp K G v d
  | .own w, o => ∃ a u, o = some (.ref a) ∧ G a = none ∧ H a = some u ∧ OwOk K G a w u
  | .mem M, _ => MemOk K G H M
/-- slot i owns the object at a -/
def Owns (Γ : List Sl) (σ : L2.St) (i : Nat) (a : Addr) : Prop := (∃ o, Γ[i]? = some (.own o) ∧ σ[i]? = some (some (.ref a))) ∨ ∃ M w, Γ[i]? = some (.mem M) ∧ M a = some w
/-- the frame of a call that may change what stands at F -/
structure FwF (F : Addr → Prop) (G H G' H' : Hp) : Prop where
  g : Same G G'
  h : ∀ a o, H a = some o → ¬ F a → H' a = some o
  l : ∀ a, H' a = none → H a = none
  e : Same G' H'
  n : ∀ a o, G' a = some o → G a = none → H a = none ∨ F a
structure Stt (B : Bx) (Γ : List Sl) (σ : L2.St) (G H : Hp) : Prop where
  fw : FwF B.F0 B.G0 B.H0 G H
  len : σ.length = Γ.length
  sl : ∀ (i : Nat) s, Γ[i]? = some s → SlOk B.K G H s ((σ[i]?).getD none)
  ap : ∀ (i j : Nat) a, Owns Γ σ i a → Owns Γ σ j a → i = j
  nw : ∀ (i : Nat) o a, Γ[i]? = some (.own o) → σ[i]? = some (some (.ref a)) → B.H0 a = none
  nm : ∀ (i : Nat) M a w, Γ[i]? = some (.mem M) → M a = some w → B.H0 a = none ∨ B.F0 a
def XOk (K : PySem.W.Frag) (G : Hp) (x : Xc) (cls : Value) (dd : Option Addr) : Prop :=
  cls = .ref x.C ∧ ((x.fs = [] ∧ dd = none) ∨ ∃ d vs, dd = some d ∧ G d = some (.xd vs) ∧ Rfs K G vs x.fs)

section
variable {K : PySem.W.Frag} {B : Bx} {Γ Γ' Γ1 Γ2 : List Sl} {σ σ' : L2.St} {G G' G2 H H' H2 : Hp} {F : Addr → Prop}
theorem FwF.refl (e : Same G H) : FwF F G H G H := ⟨Same.refl _, fun _ _ h _ => h, fun _ h => h, e, fun _ _ h q => by rw [h] at q; cases q⟩
theorem FwF.trans (a : FwF F G H G' H') (b : Fw G' H' G2 H2) : FwF F G H G2 H2 :=
  ⟨a.g.trans b.g, fun c o q n => b.h _ _ (a.h c o q n), fun c q => a.l c (b.h.free q), b.e, fun c o q n => by
    cases e : G' c with
    | some u => exact a.n c u e n
    | none => exact .inl (a.l c (b.n c o q e))⟩
theorem FwF.fw (a : FwF F G H G' H') (h : ∀ a, ¬ F a) : Fw G H G' H' := ⟨a.g, fun c o q => a.h c o q (h c), a.e, fun c o q n => (a.n c o q n).resolve_right (h c)⟩
theorem FwF.of (a : Fw G H G' H') : FwF F G H G' H' := ⟨a.g, fun c o q _ => a.h c o q, fun c q => a.h.free q, a.e, fun c o q n => .inl (a.n c o q n)⟩
theorem OwOk.mono (e : Same G G') {a : Addr} {w : Ow} {u : HO} (h : OwOk K G a w u) : OwOk K G' a w u := by
  cases w with
  | lst ds => obtain ⟨xs, a, r⟩ := h; exact ⟨xs, a, r.mono e⟩
  | dk ks => obtain ⟨xs, a, r⟩ := h; exact ⟨xs, a, r.mono e⟩
  | ins C fs oa => obtain ⟨ha, dx, xs, a, r⟩ := h; exact ⟨ha, dx, xs, a, r.mono e⟩
theorem OwOk.rp (e : Same G G') {a : Addr} {w : Ow} {u : HO} (h : OwOk K G a w u) (ha : G' a = some u) : Rp K G' (.ref a) w.toD := by
  cases w with
  | lst ds => obtain ⟨xs, rfl, r⟩ := h; exact .lst (.inl (.inl ha)) (r.mono e)
  | dk ks => obtain ⟨xs, rfl, r⟩ := h; exact .dk (.inl ha) (r.mono e)
  | ins C fs oa => obtain ⟨_, dx, xs, rfl, r⟩ := h; exact .obj ha (r.mono e)
theorem Fw.gone (f : Fw G H G' H') {a : Addr} (g : G a = none) {u : HO} (h : H a = some u) : G' a = none := by
  cases q : G' a with
  | none => rfl
  | some o => rw [f.n a o q g] at h; cases h
theorem MemOk.step {M : Mem} (f : Fw G H G' H') (h : MemOk K G H M) : MemOk K G' H' M := fun a w e => by
  obtain ⟨g, u, z, r⟩ := h a w e
  exact ⟨f.gone g z, u, f.h _ _ z, r.mono f.g⟩
theorem SlOk.step {s : Sl} {o : Option V} (f : Fw G H G' H') (h : SlOk K G H s o) : SlOk K G' H' s o := by
  cases s with
  | un => trivial
  | dat d => obtain ⟨v, e, r⟩ := h; exact ⟨v, e, r.mono f.g⟩
  | own w => obtain ⟨a, u, e, g, z, r⟩ := h; exact ⟨a, u, e, f.gone g z, f.h _ _ z, r.mono f.g⟩
  | mem M => exact MemOk.step f h
theorem Stt.step (S : Stt B Γ σ G H) (f : Fw G H G' H') : Stt B Γ σ G' H' :=
  ⟨S.fw.trans f, S.len, fun i s h => (S.sl i s h).step f, S.ap, S.nw, S.nm⟩
theorem Stt.dat (S : Stt B Γ σ G H) {i : Nat} {d : D} (h : Γ[i]? = some (.dat d)) : ∃ v, σ[i]? = some (some v) ∧ Rp B.K G v d := by
  obtain ⟨v, e, r⟩ := S.sl i _ h
  cases q : σ[i]? with
  | none => rw [q] at e; cases e
  | some z => rw [q] at e; exact ⟨v, congrArg some e, r⟩
theorem Stt.own (S : Stt B Γ σ G H) {i : Nat} {w : Ow} (h : Γ[i]? = some (.own w)) : ∃ a u, σ[i]? = some (some (.ref a)) ∧ G a = none ∧ H a = some u ∧ OwOk B.K G a w u ∧ B.H0 a = none := by
  obtain ⟨a, u, e, g, z, r⟩ := S.sl i _ h
  cases q : σ[i]? with
  | none => rw [q] at e; cases e
  | some y => rw [q] at e; cases (show y = some (.ref a) from e); exact ⟨a, u, rfl, g, z, r, S.nw i w a h q⟩
theorem Stt.mem (S : Stt B Γ σ G H) {i : Nat} {M : Mem} (h : Γ[i]? = some (.mem M)) : MemOk B.K G H M := S.sl i _ h
theorem Stt.same (S : Stt B Γ σ G H) : Same G H := S.fw.e
theorem Stt.fr (S : Stt B Γ σ G H) {a : Addr} (h : H a = none) : B.H0 a = none := S.fw.l a h
/-- what is owned stands, and no one else has it -/
theorem Stt.owned (S : Stt B Γ σ G H) {i : Nat} {a : Addr} (h : Owns Γ σ i a) : G a = none ∧ (∃ u, H a = some u) ∧ (B.H0 a = none ∨ B.F0 a) := by
  rcases h with ⟨o, h1, h2⟩ | ⟨M, w, h1, h2⟩
  · obtain ⟨b, u, e, g, z, r, h0⟩ := S.own h1
    rw [h2] at e
    cases e
    exact ⟨g, ⟨u, z⟩, .inl h0⟩
  · obtain ⟨g, u, z, r⟩ := S.mem h1 a w h2
    exact ⟨g, ⟨u, z⟩, S.nm i M a w h1 h2⟩
theorem owns_ne {i j : Nat} {s : Sl} {o : Option V} {a : Addr} (ne : j ≠ i) (h : Owns (Γ.set i s) (σ.set i o) j a) : Owns Γ σ j a := by
  unfold Owns at h
  rw [List.getElem?_set_ne (Ne.symm ne), List.getElem?_set_ne (Ne.symm ne)] at h
  exact h
theorem owns_neΓ {i j : Nat} {s : Sl} {a : Addr} (ne : j ≠ i) (h : Owns (Γ.set i s) σ j a) : Owns Γ σ j a := by
  unfold Owns at h
  rw [List.getElem?_set_ne (Ne.symm ne)] at h
  exact h
def Sl.quiet : Sl → Prop
  | .own _ => False
  | .mem _ => False
  | _ => True
theorem owns_q {i j : Nat} {s : Sl} {τ : L2.St} {a : Addr} (hi : i < Γ.length) (hs : s.quiet) (h : Owns (Γ.set i s) τ j a) : j ≠ i := fun e => by
  subst e
  unfold Owns at h
  rw [List.getElem?_set_self hi] at h
  rcases h with ⟨o, h1, _⟩ | ⟨M, w, h1, _⟩ <;> cases h1 <;> exact hs
/-- a slot is given a datum, or forgotten -/
theorem Stt.setQ (S : Stt B Γ σ G H) {i : Nat} {s : Sl} {o : Option V} (hi : i < Γ.length) (hs : s.quiet) (r : SlOk B.K G H s o) : Stt B (Γ.set i s) (σ.set i o) G H := by
  have ne : ∀ (j : Nat) (t : Sl), ¬ t.quiet → (Γ.set i s)[j]? = some t → j ≠ i := fun j t nt h e => by
    subst e
    rw [List.getElem?_set_self hi] at h
    cases h
    exact nt hs
  refine ⟨S.fw, by simp [S.len], fun j s' h => ?_, fun j k a h1 h2 => ?_, fun j o' a h1 h2 => ?_, fun j M a w h1 h2 => ?_⟩
  · by_cases e : j = i
    · subst e
      rw [List.getElem?_set_self hi] at h
      cases h
      rw [List.getElem?_set_self (by rw [S.len]; exact hi)]
      exact r
    · rw [List.getElem?_set_ne (Ne.symm e)] at h
      rw [List.getElem?_set_ne (Ne.symm e)]
      exact S.sl j s' h
  · exact S.ap j k a (owns_ne (owns_q hi hs h1) h1) (owns_ne (owns_q hi hs h2) h2)
  · have n1 := ne j _ (by exact fun z => z) h1
    rw [List.getElem?_set_ne (Ne.symm n1)] at h1 h2
    exact S.nw j o' a h1 h2
  · have n1 := ne j _ (by exact fun z => z) h1
    rw [List.getElem?_set_ne (Ne.symm n1)] at h1
    exact S.nm j M a w h1 h2
theorem Stt.set (S : Stt B Γ σ G H) {i : Nat} {v : V} {d : D} (hi : i < Γ.length) (r : Rp B.K G v d) : Stt B (Γ.set i (.dat d)) (σ.set i (some v)) G H := S.setQ hi trivial ⟨v, rfl, r⟩
theorem Stt.forget (S : Stt B Γ σ G H) {i : Nat} {o : Option V} (hi : i < Γ.length) : Stt B (Γ.set i .un) (σ.set i o) G H := S.setQ hi trivial trivial
/-- a slot is given an object of one's own -/
theorem Stt.setO (S : Stt B Γ σ G H) {i : Nat} {a : Addr} {u : HO} {w : Ow} (hi : i < Γ.length) (hg : G a = none) (hh : H a = some u) (r : OwOk B.K G a w u) (h0 : B.H0 a = none)
    (hap : ∀ (j : Nat), j ≠ i → ¬ Owns Γ σ j a) : Stt B (Γ.set i (.own w)) (σ.set i (some (.ref a))) G H := by
  have oi : ∀ b, Owns (Γ.set i (.own w)) (σ.set i (some (.ref a))) i b → b = a := fun b h => by
    unfold Owns at h
    rw [List.getElem?_set_self hi, List.getElem?_set_self (by rw [S.len]; exact hi)] at h
    rcases h with ⟨o, _, h2⟩ | ⟨M, w, h1, _⟩
    · cases h2; rfl
    · cases h1
  refine ⟨S.fw, by simp [S.len], fun j s h => ?_, fun j k b h1 h2 => ?_, fun j o b h1 h2 => ?_, fun j M b w' h1 h2 => ?_⟩
  · by_cases e : j = i
    · subst e
      rw [List.getElem?_set_self hi] at h
      cases h
      rw [List.getElem?_set_self (by rw [S.len]; exact hi)]
      exact ⟨a, u, rfl, hg, hh, r⟩
    · rw [List.getElem?_set_ne (Ne.symm e)] at h
      rw [List.getElem?_set_ne (Ne.symm e)]
      exact S.sl j s h
  · by_cases ej : j = i
    · by_cases ek : k = i
      · rw [ej, ek]
      · subst ej
        have := oi b h1
        subst this
        exact absurd (owns_ne ek h2) (hap k ek)
    · by_cases ek : k = i
      · subst ek
        have := oi b h2
        subst this
        exact absurd (owns_ne ej h1) (hap j ej)
      · exact S.ap j k b (owns_ne ej h1) (owns_ne ek h2)
  · by_cases ej : j = i
    · subst ej
      rw [List.getElem?_set_self (by rw [S.len]; exact hi)] at h2
      cases h2
      exact h0
    · rw [List.getElem?_set_ne (Ne.symm ej)] at h1 h2
      exact S.nw j o b h1 h2
  · by_cases ej : j = i
    · subst ej
      rw [List.getElem?_set_self hi] at h1
      cases h1
    · rw [List.getElem?_set_ne (Ne.symm ej)] at h1
      exact S.nm j M b w' h1 h2
/-- a new object is no other slot's -/
theorem Stt.apart (S : Stt B Γ σ G H) {a : Addr} (h : H a = none) : ∀ (j : Nat), ¬ Owns Γ σ j a := fun j hj => by
  obtain ⟨_, ⟨u, z⟩, _⟩ := S.owned hj
  rw [h] at z
  cases z
/-- an object that slot i owns, or that no one owns, changes: the other slots stand -/
theorem Stt.frame (S : Stt B Γ σ G H) {a : Addr} {u' : HO} (hg : G a = none) (h0 : B.H0 a = none ∨ B.F0 a) : FwF B.F0 B.G0 B.H0 G (upd H a u') := by
  refine ⟨S.fw.g, fun b o q n => ?_, fun b q => ?_, fun b o q => ?_, S.fw.n⟩
  · by_cases e : b = a
    · subst e
      rcases h0 with h | h
      · rw [h] at q; cases q
      · exact absurd h n
    · rw [upd_ne e]; exact S.fw.h b o q n
  · by_cases e : b = a
    · subst e; rw [upd_same] at q; cases q
    · rw [upd_ne e] at q; exact S.fw.l b q
  · rw [upd_ne (ne_of_none q hg)]; exact S.fw.e b o q
theorem Stt.keepSl (S : Stt B Γ σ G H) {j : Nat} {a : Addr} {u' : HO} {s : Sl} (h : Γ[j]? = some s) (no : ¬ Owns Γ σ j a) : SlOk B.K G (upd H a u') s ((σ[j]?).getD none) := by
  have q := S.sl j s h
  cases s with
  | un => trivial
  | dat d => exact q
  | own o =>
    obtain ⟨b, u2, e2, g2, z2, r2⟩ := q
    refine ⟨b, u2, e2, g2, ?_, r2⟩
    rw [upd_ne]
    · exact z2
    · intro eb
      subst eb
      refine no (.inl ⟨o, h, ?_⟩)
      cases q : σ[j]? with
      | none => rw [q] at e2; cases e2
      | some y => rw [q] at e2; exact congrArg some e2
  | mem M =>
    intro b w e
    obtain ⟨g2, u2, z2, r2⟩ := q b w e
    refine ⟨g2, u2, ?_, r2⟩
    rw [upd_ne]
    · exact z2
    · intro eb
      subst eb
      exact no (.inr ⟨M, w, h, e⟩)
/-- one's own object changes -/
theorem Stt.mut (S : Stt B Γ σ G H) {i : Nat} {a : Addr} {w w' : Ow} {u' : HO} (hi : Γ[i]? = some (.own w)) (ha : σ[i]? = some (some (.ref a))) (r : OwOk B.K G a w' u') : Stt B (Γ.set i (.own w')) σ G (upd H a u') := by
  obtain ⟨b, u, e1, hg, hh, _, h0⟩ := S.own hi
  rw [ha] at e1
  cases e1
  have hil : i < Γ.length := (List.getElem?_eq_some_iff.mp hi).1
  have oi : Owns Γ σ i a := .inl ⟨w, hi, ha⟩
  have key : ∀ (j : Nat) (c : Addr), Owns (Γ.set i (.own w')) σ j c → Owns Γ σ j c := fun j c h => by
    by_cases e : j = i
    · subst e
      unfold Owns at h
      rw [List.getElem?_set_self hil] at h
      rcases h with ⟨o, _, h2⟩ | ⟨M, w, h1, _⟩
      · exact .inl ⟨w, hi, h2⟩
      · cases h1
    · exact owns_neΓ e h
  refine ⟨S.frame hg (.inl h0), by simp [S.len], fun j s h => ?_, fun j k b h1 h2 => S.ap j k b (key j b h1) (key k b h2), fun j o b h1 h2 => ?_, fun j M b w2 h1 h2 => ?_⟩
  · by_cases e : j = i
    · subst e
      rw [List.getElem?_set_self hil] at h
      cases h
      rw [ha]
      exact ⟨a, u', rfl, hg, upd_same, r⟩
    · rw [List.getElem?_set_ne (Ne.symm e)] at h
      exact S.keepSl h fun q => e (S.ap j i a q oi)
  · by_cases e : j = i
    · subst e; exact S.nw j w b hi h2
    · rw [List.getElem?_set_ne (Ne.symm e)] at h1; exact S.nw j o b h1 h2
  · by_cases e : j = i
    · subst e; rw [List.getElem?_set_self hil] at h1; cases h1
    · rw [List.getElem?_set_ne (Ne.symm e)] at h1; exact S.nm j M b w2 h1 h2
/-- one's own object is given up: it stands as read-only from now on -/
theorem Stt.freeze (S : Stt B Γ σ G H) {i : Nat} {w : Ow} (hi : Γ[i]? = some (.own w)) : ∃ G', Same G G' ∧ Stt B (Γ.set i (.dat w.toD)) σ G' H := by
  obtain ⟨a, ux, e1, hg, hh, r, h0⟩ := S.own hi
  have hil : i < Γ.length := (List.getElem?_eq_some_iff.mp hi).1
  have oi : Owns Γ σ i a := .inl ⟨w, hi, e1⟩
  have sg : Same G (upd G a ux) := fun b o q => by rw [upd_ne (ne_of_none q hg)]; exact q
  have se : Same (upd G a ux) H := fun b o q => by
    by_cases z : b = a
    · subst z; rw [upd_same] at q; cases q; exact hh
    · rw [upd_ne z] at q; exact S.fw.e b o q
  have key : ∀ (j : Nat) (c : Addr), Owns (Γ.set i (.dat w.toD)) σ j c → j ≠ i ∧ Owns Γ σ j c := fun j c h => by
    have ne := owns_q hil (s := .dat w.toD) trivial h
    exact ⟨ne, owns_neΓ ne h⟩
  refine ⟨upd G a ux, sg, ⟨⟨S.fw.g.trans sg, S.fw.h, S.fw.l, se, fun b o q n => ?_⟩, by simp [S.len], fun j s h => ?_, fun j k b h1 h2 => S.ap j k b (key j b h1).2 (key k b h2).2, fun j o b h1 h2 => ?_, fun j M b w2 h1 h2 => ?_⟩⟩
  · by_cases z : b = a
    · subst z; exact .inl h0
    · rw [upd_ne z] at q; exact S.fw.n b o q n
  · by_cases e : j = i
    · subst e
      rw [List.getElem?_set_self hil] at h
      cases h
      rw [e1]
      exact ⟨.ref a, rfl, r.rp sg upd_same⟩
    · rw [List.getElem?_set_ne (Ne.symm e)] at h
      have no : ¬ Owns Γ σ j a := fun q => e (S.ap j i a q oi)
      have q := S.sl j s h
      cases s with
      | un => trivial
      | dat d => obtain ⟨v, e2, r2⟩ := q; exact ⟨v, e2, r2.mono sg⟩
      | own o =>
        obtain ⟨b, u2, e2, g2, z2, r2⟩ := q
        refine ⟨b, u2, e2, ?_, z2, r2.mono sg⟩
        rw [upd_ne]
        · exact g2
        · intro eb
          subst eb
          refine no (.inl ⟨o, h, ?_⟩)
          cases q : σ[j]? with
          | none => rw [q] at e2; cases e2
          | some y => rw [q] at e2; exact congrArg some e2
      | mem M =>
        intro b w2 e2
        obtain ⟨g2, u2, z2, r2⟩ := q b w2 e2
        refine ⟨?_, u2, z2, r2.mono sg⟩
        rw [upd_ne]
        · exact g2
        · intro eb
          subst eb
          exact no (.inr ⟨M, w2, h, e2⟩)
  · by_cases e : j = i
    · subst e; rw [List.getElem?_set_self hil] at h1; cases h1
    · rw [List.getElem?_set_ne (Ne.symm e)] at h1; exact S.nw j o b h1 h2
  · by_cases e : j = i
    · subst e; rw [List.getElem?_set_self hil] at h1; cases h1
    · rw [List.getElem?_set_ne (Ne.symm e)] at h1; exact S.nm j M b w2 h1 h2
/-- what a call hands back -/
theorem Fw.freeze (f : Fw G H G' H') {a : Addr} {u : HO} (g : G' a = none) (h : H a = none) (h' : H' a = some u) : Fw G H (upd G' a u) H' := by
  refine ⟨fun b o q => ?_, f.h, fun b o q => ?_, fun b o q n => ?_⟩
  · rw [upd_ne (ne_of_none (f.g b o q) g)]; exact f.g b o q
  · by_cases z : b = a
    · subst z; rw [upd_same] at q; cases q; exact h'
    · rw [upd_ne z] at q; exact f.e b o q
  · by_cases z : b = a
    · subst z; exact h
    · rw [upd_ne z] at q; exact f.n b o q n
end
end Z

/-! Z3: what a reading evaluates to: rules for expressions. -/
namespace Z
open PySem PySem.Spec PyProof.Rows L2

def tx (l : List Nat) : Str := ⟨l.toArray⟩
theorem tx_length (l : List Nat) : (tx l).length = l.length := by show l.toArray.size = _; simp
theorem tx_append (a b : List Nat) : tx a ++ tx b = tx (a ++ b) := by
  show (⟨a.toArray ++ b.toArray⟩ : Str) = ⟨(a ++ b).toArray⟩
  simp
theorem tx_cps (l : List Nat) : (tx l).cps.toList = l := by simp [tx]
theorem tx_inj {a b : List Nat} : tx a = tx b ↔ a = b := by
  constructor
  · intro h
    have := congrArg (fun s : Str => s.cps.toList) h
    simpa [tx] using this
  · intro h; rw [h]
theorem tx_of (s : Str) : s = tx s.cps.toList := by cases s; simp [tx]

/-- a promise by data: F ds R E -/
abbrev Fn := List D → (Sl → Prop) → (Xc → Prop) → Prop
def RsOk (K : PySem.W.Frag) (H G' H' : Hp) : Sl → V → Prop
  | .un, _ => True
  | .dat d, v => Rp K G' v d
  | .own w, v => ∃ a u, v = .ref a ∧ G' a = none ∧ H a = none ∧ H' a = some u ∧ OwOk K G' a w u
  | .mem _, _ => True
def spz (K : PySem.W.Frag) (F : Fn) : Sp := fun vs H Q E => ∃ (G : Hp) (ds : List D) (R : Sl → Prop) (X : Xc → Prop), Same G H ∧ Rps K G vs ds ∧ F ds R X ∧
  (∀ s v G' H', R s → Fw G H G' H' → RsOk K H G' H' s v → Q v H') ∧ (∀ x cls dd G' H', X x → Fw G H G' H' → XOk K G' x cls dd → E cls dd H')
theorem spz_len {K : PySem.W.Frag} {F : Fn} {n : Nat} (h : ∀ ds R X, F ds R X → ds.length = n) (vs : List V) (H : Hp) (Q : VK) (E : XK) (s : spz K F vs H Q E) : vs.length = n := by
  obtain ⟨G, ds, R, X, _, r, f, _⟩ := s
  rw [r.length, h ds R X f]

def Ev (B : Bx) (te : TE) (Γ : List Sl) (d : D) : Prop := ∀ σ G H Q, Stt B Γ σ G H → (∀ v G' H', Fw G H G' H' → Rp B.K G' v d → Q v H') → te σ H Q
def EvO (B : Bx) (te : TE) (Γ : List Sl) (w : Ow) : Prop := ∀ σ G H Q, Stt B Γ σ G H → (∀ a u G' H', Fw G H G' H' → G' a = none → H a = none → H' a = some u → OwOk B.K G' a w u → Q (.ref a) H') → te σ H Q
def EvT (B : Bx) (tt : TT) (Γ : List Sl) (b : Bool) : Prop := ∀ σ G H Q, Stt B Γ σ G H → (∀ G' H', Fw G H G' H' → Q b H') → tt σ H Q
def EvA (B : Bx) (ta : TA) (Γ : List Sl) (ds : List D) : Prop := ∀ σ G H Q, Stt B Γ σ G H → (∀ vs G' H', Fw G H G' H' → Rps B.K G' vs ds → Q vs H') → ta σ H Q
def EvP (B : Bx) (to : TO) (Γ : List Sl) (o : Option Int) : Prop := ∀ σ G H Q, Stt B Γ σ G H → (∀ G' H', Fw G H G' H' → Q o H') → to σ H Q
/-- operations on values -/
def RV (B : Bx) (r : R2) (a b c : D) : Prop := ∀ x y G H Q, Same G H → Rp B.K G x a → Rp B.K G y b → (∀ v G' H', Fw G H G' H' → Rp B.K G' v c → Q v H') → r x y H Q
def RU (B : Bx) (r : V → Hp → VK → Prop) (a c : D) : Prop := ∀ x G H Q, Same G H → Rp B.K G x a → (∀ v G' H', Fw G H G' H' → Rp B.K G' v c → Q v H') → r x H Q
def RC (B : Bx) (r : List V → Hp → VK → Prop) (as : List D) (c : D) : Prop := ∀ xs G H Q, Same G H → Rps B.K G xs as → (∀ v G' H', Fw G H G' H' → Rp B.K G' v c → Q v H') → r xs H Q
def RM (B : Bx) (r : V → List V → Hp → VK → Prop) (a : D) (as : List D) (c : D) : Prop := ∀ x xs G H Q, Same G H → Rp B.K G x a → Rps B.K G xs as → (∀ v G' H', Fw G H G' H' → Rp B.K G' v c → Q v H') → r x xs H Q

section
variable {B : Bx} {Γ : List Sl} {ta tb tc te : TE} {tt tu : TT} {aa : TA} {a b c d : D} {as ds : List D} {r : R2} {i j k : Int}

theorem Ev.of_ownW {w : Ow} (h : EvO B te Γ w) : Ev B te Γ w.toD := fun σ G H Q S q =>
  h σ G H Q S fun p u G' H' f g n e o =>
    q (.ref p) (upd G' p u) H' (f.freeze g n e) (o.rp (fun b o z => by rw [upd_ne (ne_of_none z g)]; exact z) upd_same)
theorem Ev.of_own {xs : List D} (h : EvO B te Γ (.lst xs)) : Ev B te Γ (.lst xs) := Ev.of_ownW h
theorem Ev.of_ownD {ks : List (Key × D)} (h : EvO B te Γ (.dk ks)) : Ev B te Γ (.dk ks) := Ev.of_ownW h
theorem Ev.of_ownI {C : Addr} {fs : List (Str × D)} {oa : Option Addr} (h : EvO B te Γ (.ins C fs oa)) : Ev B te Γ (.obj C fs) := Ev.of_ownW h
theorem ev_eq (h : Ev B te Γ a) (e : a = b) : Ev B te Γ b := e ▸ h
theorem evo_eq {w w' : Ow} (h : EvO B te Γ w) (e : w = w') : EvO B te Γ w' := e ▸ h
theorem evt_eq {p q : Bool} (h : EvT B tt Γ p) (e : p = q) : EvT B tt Γ q := e ▸ h

/-! ### names, constants -/
theorem ev_var {n : Nat} (h : Γ[n]? = some (.dat d)) : Ev B (tVar n) Γ d := fun σ G H Q S q => by
  obtain ⟨v, e, r⟩ := S.dat h
  exact ⟨v, e, q v G H (Fw.refl S.same) r⟩
theorem ev_c {v : V} (h : ∀ G, Rp B.K G v d) : Ev B (tC v) Γ d := fun σ G H Q S q => q v G H (Fw.refl S.same) (h G)
theorem ev_int : Ev B (tC (.int i)) Γ (.int i) := ev_c fun _ => .int i
theorem ev_bl {b : Bool} : Ev B (tC (.bl b)) Γ (.bl b) := ev_c fun _ => .bl b
theorem ev_non : Ev B (tC .non) Γ .non := ev_c fun _ => .non
theorem ev_ty {n : String} : Ev B (tC (.ty n)) Γ (.ty n) := ev_c fun _ => .ty n
theorem ev_ref {a : Addr} : Ev B (tC (.ref a)) Γ (.ref a) := ev_c fun _ => .ref a
theorem ev_str {x : Str} : Ev B (tC (.str x)) Γ (.str x) := ev_c fun _ => .str x
theorem ev_txt {x : Str} {l : List Nat} (h : x = tx l) : Ev B (tC (.str x)) Γ (.str (tx l)) := h ▸ ev_str
/-- a list or tuple of the module's own -/
theorem ev_kt {a : Addr} {xs : List V} (h : ∀ G, SqT B.K G a xs) (r : ∀ G, Rps B.K G xs ds) : Ev B (tC (.ref a)) Γ (.tup ds) := ev_c fun G => .tup (h G) (r G)
theorem ev_kl {a : Addr} {xs : List V} (h : ∀ G, SqL B.K G a xs) (r : ∀ G, Rps B.K G xs ds) : Ev B (tC (.ref a)) Γ (.lst ds) := ev_c fun G => .lst (h G) (r G)

/-! ### composition -/
theorem ev_op (ha : Ev B ta Γ a) (hb : Ev B tb Γ b) (hr : RV B r a b c) : Ev B (tOp r ta tb) Γ c := fun σ G H Q S q =>
  ha σ G H _ S fun x G1 H1 f1 r1 => hb σ G1 H1 _ (S.step f1) fun y G2 H2 f2 r2 => hr x y G2 H2 Q f2.e (r1.mono f2.g) r2 fun v G3 H3 f3 r3 => q v G3 H3 ((f1.trans f2).trans f3) r3
theorem ev_un {r : V → Hp → VK → Prop} (ha : Ev B ta Γ a) (hr : RU B r a c) : Ev B (tUn r ta) Γ c := fun σ G H Q S q =>
  ha σ G H _ S fun x G1 H1 f1 r1 => hr x G1 H1 Q f1.e r1 fun v G3 H3 f3 r3 => q v G3 H3 (f1.trans f3) r3
theorem eva_nil : EvA B tNil Γ [] := fun σ G H Q S q => q [] G H (Fw.refl S.same) .nil
theorem eva_cons {tr : TA} (h : Ev B te Γ d) (hr : EvA B tr Γ ds) : EvA B (tCons te tr) Γ (d :: ds) := fun σ G H Q S q =>
  h σ G H _ S fun v G1 H1 f1 r1 => hr σ G1 H1 _ (S.step f1) fun vs G2 H2 f2 r2 => q (v :: vs) G2 H2 (f1.trans f2) (.cons (r1.mono f2.g) r2)
theorem ev_cb {r : List V → Hp → VK → Prop} (ha : EvA B aa Γ as) (hr : RC B r as c) : Ev B (tCB r aa) Γ c := fun σ G H Q S q =>
  ha σ G H _ S fun x G1 H1 f1 r1 => hr x G1 H1 Q f1.e r1 fun v G3 H3 f3 r3 => q v G3 H3 (f1.trans f3) r3
theorem line_le {n : Nat} (h : n ≤ 16777216) : n ≤ sizeLine := by rw [sizeLine_eq]; exact h
theorem line_lt {n : Nat} (h : n < 16777216) : n < sizeLine := by rw [sizeLine_eq]; exact h
theorem ev_tup (ha : EvA B aa Γ ds) (hl : ds.length ≤ 16777216 := by decide) : Ev B (tTup aa) Γ (.tup ds) := fun σ G H Q S q =>
  ha σ G H _ S fun vs G1 H1 f1 r1 => ⟨by rw [r1.length]; exact line_le hl, fun p hp => q (.ref p) _ _ (f1.trans (Fw.new f1.e hp)) (.tup (.inl (.inl upd_same)) (r1.mono (Fw.new (o := .tup vs) f1.e hp).g))⟩
theorem evo_lst (ha : EvA B aa Γ ds) (hl : ds.length ≤ 16777216 := by decide) : EvO B (tLst aa) Γ (.lst ds) := fun σ G H Q S q =>
  ha σ G H _ S fun vs G1 H1 f1 r1 => ⟨by rw [r1.length]; exact line_le hl, fun p hp => q p (.lst vs) G1 _ (f1.trans (Fw.newO f1.e hp)) (f1.e.free hp) (f1.h.free hp) upd_same ⟨vs, rfl, r1⟩⟩
theorem ev_if {p : Bool} (h : EvT B tt Γ p) (h1 : p = true → Ev B ta Γ d) (h2 : p = false → Ev B tb Γ d) : Ev B (tIf tt ta tb) Γ d := fun σ G H Q S q =>
  h σ G H _ S fun G1 H1 f1 => by
    cases p with
    | true => exact h1 rfl σ G1 H1 Q (S.step f1) fun v G2 H2 f2 => q v G2 H2 (f1.trans f2)
    | false => exact h2 rfl σ G1 H1 Q (S.step f1) fun v G2 H2 f2 => q v G2 H2 (f1.trans f2)

/-! ### tests -/
theorem evt_test {p : Bool} (h : Ev B te Γ (.bl p)) : EvT B (tTest te) Γ p := fun σ G H Q S q =>
  h σ G H _ S fun v G1 H1 f1 r1 => by cases r1; exact ⟨p, rfl, q G1 H1 f1⟩
theorem evt_b {p : Bool} (h : Ev B te Γ (.bl p)) : EvT B (tB te) Γ p := fun σ G H Q S q =>
  h σ G H _ S fun v G1 H1 f1 r1 => by cases r1; exact ⟨p, rfl, q G1 H1 f1⟩
theorem evt_not {p : Bool} (h : EvT B tt Γ p) : EvT B (tNot tt) Γ (!p) := fun σ G H Q S q => h σ G H _ S q
theorem evt_and {p q : Bool} (h1 : EvT B tt Γ p) (h2 : p = true → EvT B tu Γ q) : EvT B (tAnd tt tu) Γ (p && q) := fun σ G H Q S k =>
  h1 σ G H _ S fun G1 H1 f1 => by
    cases p with
    | true => exact h2 rfl σ G1 H1 Q (S.step f1) fun G2 H2 f2 => k G2 H2 (f1.trans f2)
    | false => exact k G1 H1 f1
theorem evt_or {p q : Bool} (h1 : EvT B tt Γ p) (h2 : p = false → EvT B tu Γ q) : EvT B (tOr tt tu) Γ (p || q) := fun σ G H Q S k =>
  h1 σ G H _ S fun G1 H1 f1 => by
    cases p with
    | true => exact k G1 H1 f1
    | false => exact h2 rfl σ G1 H1 Q (S.step f1) fun G2 H2 f2 => k G2 H2 (f1.trans f2)
theorem evt_yes : EvT B tYes Γ true := fun σ G H Q S q => q G H (Fw.refl S.same)
theorem ev_and {p q : Bool} (h1 : Ev B ta Γ (.bl p)) (h2 : p = true → Ev B tb Γ (.bl q)) : Ev B (tAndV ta tb) Γ (.bl (p && q)) := fun σ G H Q S k =>
  h1 σ G H _ S fun v G1 H1 f1 r1 => by
    cases r1
    refine ⟨p, rfl, ?_⟩
    cases p with
    | true => exact h2 rfl σ G1 H1 Q (S.step f1) fun v G2 H2 f2 => k v G2 H2 (f1.trans f2)
    | false => exact k _ G1 H1 f1 (.bl false)
theorem ev_or {p q : Bool} (h1 : Ev B ta Γ (.bl p)) (h2 : p = false → Ev B tb Γ (.bl q)) : Ev B (tOrV ta tb) Γ (.bl (p || q)) := fun σ G H Q S k =>
  h1 σ G H _ S fun v G1 H1 f1 r1 => by
    cases r1
    refine ⟨p, rfl, ?_⟩
    cases p with
    | true => exact k _ G1 H1 f1 (.bl true)
    | false => exact h2 rfl σ G1 H1 Q (S.step f1) fun v G2 H2 f2 => k v G2 H2 (f1.trans f2)
theorem ev_not {p : Bool} (h1 : Ev B ta Γ (.bl p)) : Ev B (tNotV ta) Γ (.bl (!p)) := fun σ G H Q S k =>
  h1 σ G H _ S fun v G1 H1 f1 r1 => by cases r1; exact ⟨p, rfl, k _ G1 H1 f1 (.bl _)⟩

/-! ### a call of a def -/
theorem rs_toD {K : PySem.W.Frag} {G H G' H' : Hp} {s : Sl} {v : V} (f : Fw G H G' H') (e : s.toD = some d) (r : RsOk K H G' H' s v) : ∃ G2, Fw G H G2 H' ∧ Rp K G2 v d := by
  cases s with
  | un => cases e
  | mem M => cases e
  | dat z => cases e; exact ⟨G', f, r⟩
  | own w =>
    cases e
    obtain ⟨p, u, rfl, g, n, h, r⟩ := r
    exact ⟨_, f.freeze g n h, r.rp (fun b o z => by rw [upd_ne (ne_of_none z g)]; exact z) upd_same⟩
theorem ev_callS {F : Fn} {E : L2.St → XK} (ha : EvA B aa Γ as) (hF : F as (fun s => s.toD = some d) (fun _ => False)) : Ev B (tCallS (spz B.K F) E aa) Γ d := fun σ G H Q S q =>
  ha σ G H _ S fun vs G1 H1 f1 r1 => ⟨G1, as, _, _, f1.e, r1, hF, fun s v G' H' hs f' rs => by
    obtain ⟨G2, f2, r2⟩ := rs_toD f' hs rs
    exact q v G2 H' (f1.trans f2) r2, fun _ _ _ _ _ z => z.elim⟩
theorem ev_call {F : Fn} {E : XK} (ha : EvA B aa Γ as) (hF : F as (fun s => s.toD = some d) (fun _ => False)) : Ev B (tCall (spz B.K F) [] E aa) Γ d := fun σ G H Q S q =>
  ha σ G H _ S fun vs G1 H1 f1 r1 => by
    show spz B.K F (vs ++ []) H1 Q E
    rw [List.append_nil]
    exact ⟨G1, as, _, _, f1.e, r1, hF, fun s v G' H' hs f' rs => by
      obtain ⟨G2, f2, r2⟩ := rs_toD f' hs rs
      exact q v G2 H' (f1.trans f2) r2, fun _ _ _ _ _ z => z.elim⟩
theorem evo_callS {F : Fn} {E : L2.St → XK} {w : Ow} (ha : EvA B aa Γ as) (hF : F as (fun s => s = .own w) (fun _ => False)) : EvO B (tCallS (spz B.K F) E aa) Γ w := fun σ G H Q S q =>
  ha σ G H _ S fun vs G1 H1 f1 r1 => ⟨G1, as, _, _, f1.e, r1, hF, fun s v G' H' hs f' rs => by
    subst hs
    obtain ⟨p, u, rfl, g, n, h, o⟩ := rs
    exact q p u G' H' (f1.trans f') g (f1.h.free n) h o, fun _ _ _ _ _ z => z.elim⟩

/-! ### slices' parts -/
theorem evp_none : EvP B tNoPart Γ none := fun σ G H Q S q => q G H (Fw.refl S.same)
theorem evp_some (h : Ev B te Γ (.int i)) : EvP B (tPart te) Γ (some i) := fun σ G H Q S q =>
  h σ G H _ S fun v G1 H1 f1 r1 => by cases r1; exact ⟨i, rfl, q G1 H1 f1⟩
def RS (B : Bx) (r : V → Option Int → Option Int → Hp → VK → Prop) (a : D) (lo hi : Option Int) (c : D) : Prop := ∀ x G H Q, Same G H → Rp B.K G x a → (∀ v G' H', Fw G H G' H' → Rp B.K G' v c → Q v H') → r x lo hi H Q
theorem ev_sl {r : V → Option Int → Option Int → Hp → VK → Prop} {tl th : TO} {lo hi : Option Int} (h : Ev B te Γ a) (hl : EvP B tl Γ lo) (hh : EvP B th Γ hi) (hr : RS B r a lo hi c) : Ev B (tSl r te tl th) Γ c := fun σ G H Q S q =>
  h σ G H _ S fun x G1 H1 f1 r1 => hl σ G1 H1 _ (S.step f1) fun G2 H2 f2 => hh σ G2 H2 _ ((S.step f1).step f2) fun G3 H3 f3 =>
    hr x G3 H3 Q f3.e (r1.mono (f2.g.trans f3.g)) fun v G4 H4 f4 r4 => q v G4 H4 (((f1.trans f2).trans f3).trans f4) r4

/-! ### one's own list, looked at -/
theorem ev_thawW {n : Nat} {w : Ow} (hn : Γ[n]? = some (.own w)) (hd : flatD d = true) (h : Ev B te (Γ.set n (.dat w.toD)) d) : Ev B te Γ d := fun σ G H Q S q => by
  obtain ⟨G1, s1, S1⟩ := S.freeze hn
  refine h σ G1 H Q S1 fun v G' H' f r => q v G H' ⟨Same.refl _, f.h, S.same.trans f.h, fun b o e m => by rw [m] at e; cases e⟩ (r.flat hd)
theorem evt_thawW {n : Nat} {w : Ow} {p : Bool} (hn : Γ[n]? = some (.own w)) (h : EvT B tt (Γ.set n (.dat w.toD)) p) : EvT B tt Γ p := fun σ G H Q S q => by
  obtain ⟨G1, s1, S1⟩ := S.freeze hn
  exact h σ G1 H Q S1 fun G' H' f => q G H' ⟨Same.refl _, f.h, S.same.trans f.h, fun b o e m => by rw [m] at e; cases e⟩
theorem ev_thaw {n : Nat} {xs : List D} (hn : Γ[n]? = some (.own (.lst xs))) (hd : flatD d = true) (h : Ev B te (Γ.set n (.dat (.lst xs))) d) : Ev B te Γ d := ev_thawW hn hd h
theorem ev_thawD {n : Nat} {xs : List (Key × D)} (hn : Γ[n]? = some (.own (.dk xs))) (hd : flatD d = true) (h : Ev B te (Γ.set n (.dat (.dk xs))) d) : Ev B te Γ d := ev_thawW hn hd h
theorem ev_thawI {n : Nat} {C : Addr} {oa : Option Addr} {xs : List (Str × D)} (hn : Γ[n]? = some (.own (.ins C xs oa))) (hd : flatD d = true) (h : Ev B te (Γ.set n (.dat (.obj C xs))) d) : Ev B te Γ d := ev_thawW hn hd h
theorem evt_thaw {n : Nat} {xs : List D} {p : Bool} (hn : Γ[n]? = some (.own (.lst xs))) (h : EvT B tt (Γ.set n (.dat (.lst xs))) p) : EvT B tt Γ p := evt_thawW hn h
theorem evt_thawD {n : Nat} {xs : List (Key × D)} {p : Bool} (hn : Γ[n]? = some (.own (.dk xs))) (h : EvT B tt (Γ.set n (.dat (.dk xs))) p) : EvT B tt Γ p := evt_thawW hn h
theorem evt_thawI {n : Nat} {C : Addr} {oa : Option Addr} {xs : List (Str × D)} {p : Bool} (hn : Γ[n]? = some (.own (.ins C xs oa))) (h : EvT B tt (Γ.set n (.dat (.obj C xs))) p) : EvT B tt Γ p := evt_thawW hn h
end
end Z

/-! Z4: operators, subscripts, slices, built-ins: by values, and by data. -/
namespace Z
open PySem PySem.Spec PyProof.Rows L2
section
variable {X : Cx}

/-! ### + -/
def rCatL (K : PySem.W.Frag) : R2 := fun x y H Q => ∃ l b xs zs, x = .ref l ∧ y = .ref b ∧ SqL K H l xs ∧ SqL K H b zs ∧ xs.length + zs.length ≤ sizeLine ∧ ∀ p, H p = none → Q (.ref p) (upd H p (.lst (xs ++ zs)))
theorem op_catL : OpR X (binaryOp .Add) (rCatL X.K) := by
  intro pins s σ H x y v u Q I rx ry h
  obtain ⟨l, b, xs, zs, rfl, rfl, hH, hB, hz, q⟩ := h
  cases rx
  cases ry
  obtain ⟨its, r, ⟨⟨cls, dd, data, sl⟩, n, ho, hc, _, hd⟩, _⟩ := I.list hH
  obtain ⟨its2, r2, ⟨⟨cls2, dd2, data2, sl2⟩, n2, ho2, hc2, _, hd2⟩, _⟩ := I.list hB
  simp only at hc hd hc2 hd2
  subst hc hd hc2 hd2
  have ea : its.toArray ++ its2.toArray = (its ++ its2).toArray := by simp
  have e1 := r.length
  have e2 := r2.length
  refine concat_meets ⟨_, ho, rfl⟩ ⟨_, ho2, rfl⟩ noFill_list_add seq_list_add PySem.F.slot_list_add PySem.F.entry_list_add (PySem.F.args_list_add_2 _ _) (list_addW l b its.toArray its2.toArray n n2 dd dd2 sl sl2 (by rw [List.size_toArray, List.size_toArray]; omega)) ⟨ho, ho2, ?_⟩
  rw [ea]
  exact ⟨.ref _, _, I.lnew (t' := s.toks) (r.append r2) (by rw [List.length_append]; omega), rfl, q _ I.fresh⟩
def rAddI : R2 := rI0 fun i j => .int (i + j)
def rAddT : R2 := fun x y H Q => ∃ i j, x = .str i ∧ y = .str j ∧ i.length + j.length ≤ sizeLine ∧ Q (.str (i ++ j)) H
def zAdd (K : PySem.W.Frag) : R2 := fun x y H Q => rAddI x y H Q ∨ (rAddT x y H Q ∨ (rCatL K x y H Q ∨ rCatA K x y H Q))
theorem op_zAdd : OpR X (binaryOp .Add) (zAdd X.K) := OpR.or op_add (OpR.or op_add_str (OpR.or op_catL op_catA))
def zSub : R2 := rI0 fun i j => .int (i - j)
theorem op_zSub : OpR X (binaryOp .Sub) zSub := op_sub

/-! ### * -/
def rMulT : R2 := fun x y H Q => ∃ z k, x = .str z ∧ y = .int k ∧ MulOk z k ∧ Q (.str (Txt.mul z k)) H
theorem op_mulT : OpR X (binaryOp .Mult) rMulT := by
  intro pins s σ H x y v u Q I rx ry h
  obtain ⟨z, k, rfl, rfl, hm, q⟩ := h
  obtain ⟨t, rfl⟩ := rx
  obtain ⟨t', rfl⟩ := ry
  exact SB.mul hm fun t' k' => ⟨.str _, H, I.kept (t' := k') fun _ _ z => z, ⟨_, rfl⟩, q⟩
def zMul : R2 := fun x y H Q => rI CMulW (fun i j => .int (i * j)) x y H Q ∨ (rMulT x y H Q ∨ rRep x y H Q)
theorem op_zMul : OpR X (binaryOp .Mult) zMul := OpR.or op_mulW (OpR.or op_mulT op_rep)
def zDiv : R2 := rI CDivW fun i j => .int (i / j)
theorem op_zDiv : OpR X (binaryOp .FloorDiv) zDiv := op_fdivW
def zMod : R2 := rI (fun _ j => 0 < j) fun i j => .int (i % j)
theorem op_zMod : OpR X (binaryOp .Mod) zMod := op_mod
def zPow : R2 := rI CPow fun i j => .int (i ^ j.toNat)
theorem op_zPow : OpR X (binaryOp .Pow) zPow := op_pow

/-! ### comparisons -/
def zEq (K : PySem.W.Frag) : R2 := fun x y H Q => rEq x y H Q ∨ rEqD K x y H Q
def zNe (K : PySem.W.Frag) : R2 := fun x y H Q => rNe x y H Q ∨ rNeD K x y H Q
theorem op_zEq (hu : X.A.units + 64 < cLine) : OpR X (compareOp .Eq) (zEq X.K) := OpR.or op_eq (op_eqD hu)
theorem op_zNe (hu : X.A.units + 64 < cLine) : OpR X (compareOp .NotEq) (zNe X.K) := OpR.or op_ne (op_neD hu)
def zLt : R2 := rI0 fun i j => .bl (decide (i < j))
def zLe : R2 := rI0 fun i j => .bl (decide (i ≤ j))
def zGt : R2 := rI0 fun i j => .bl (decide (j < i))
def zGe : R2 := rI0 fun i j => .bl (decide (j ≤ i))
theorem op_zLt : OpR X (compareOp .Lt) zLt := op_lt
theorem op_zLe : OpR X (compareOp .LtE) zLe := op_le
theorem op_zGt : OpR X (compareOp .Gt) zGt := op_gt
theorem op_zGe : OpR X (compareOp .GtE) zGe := op_ge
def rInT (neg : Bool) : R2 := fun x y H Q => ∃ i j, x = .str i ∧ y = .str j ∧ Q (.bl (if neg then !(!(Builtin.Str.occurrences j i 0 j.length 1).isEmpty) else !(Builtin.Str.occurrences j i 0 j.length 1).isEmpty)) H
theorem hu1 {a : Nat} (h : a + 64 < cLine) : a + 1 < cLine := by omega
def rInG (neg : Bool) : R2 := fun x y H Q => ∃ a o, y = .ref a ∧ DGet H a x o ∧ Q (.bl (if neg then !o.isSome else o.isSome)) H
theorem op_inG (hu : X.A.units + 1 < cLine) : OpR X (compareOp .In) (rInG false) := by
  intro pins s σ H x y v u Q I rx ry h
  obtain ⟨a, o, rfl, g, q⟩ := h
  cases ry
  exact d_in hu I g rx fun s3 I3 => ⟨.bl o.isSome, H, I3, rfl, q⟩
theorem op_ninG (hu : X.A.units + 1 < cLine) : OpR X (compareOp .NotIn) (rInG true) := by
  intro pins s σ H x y v u Q I rx ry h
  obtain ⟨a, o, rfl, g, q⟩ := h
  cases ry
  exact d_notIn hu I g rx fun s3 I3 => ⟨.bl (!o.isSome), H, I3, rfl, q⟩
def zIn (K : PySem.W.Frag) (neg : Bool) : R2 := fun x y H Q => rInT neg x y H Q ∨ (rIn K neg x y H Q ∨ rInG neg x y H Q)
theorem op_zIn (hu : X.A.units + 64 < cLine) : OpR X (compareOp .In) (zIn X.K false) := OpR.or op_in_str (OpR.or op_in_seq (op_inG (hu1 hu)))
theorem op_zNotIn (hu : X.A.units + 64 < cLine) : OpR X (compareOp .NotIn) (zIn X.K true) := OpR.or op_notIn_str (OpR.or op_notIn_seq (op_ninG (hu1 hu)))
def zIsN : R2 := fun x y H Q => y = .non ∧ Q (.bl (decide (x = .non))) H
def zNotN : R2 := fun x y H Q => y = .non ∧ Q (.bl (!decide (x = .non))) H
theorem op_zIsN : OpR X (compareOp .Is) zIsN := op_isN
theorem op_zNotN : OpR X (compareOp .IsNot) zNotN := op_notN

/-! ### subscripts, slices -/
def rIxG : R2 := fun x y H Q => ∃ a v, x = .ref a ∧ DGet H a y (some v) ∧ Q v H
theorem ix_G (hu : X.A.units + 1 < cLine) : IxR X rIxG := by
  intro value slice pins s σ H x y v u Q I rx ry h hs
  obtain ⟨a, w, rfl, g, q⟩ := h
  obtain rfl : v = Value.ref a := rx
  exact tail_any (T := "dict") (ops := [.ref a, u]) (dict_typeIs I g) PySem.F.slot_dict_getitem.lookup (d_getItem hu I g ry fun w' s3 I3 rw' => ⟨w, H, I3, rw', q⟩) hs
def zIx (K : PySem.W.Frag) : R2 := fun x y H Q => rIx K x y H Q ∨ rIxG x y H Q
theorem ix_z (hu : X.A.units + 64 < cLine) : IxR X (zIx X.K) := IxR.or ix_seq (ix_G (hu1 hu))
def zSl (K : PySem.W.Frag) : V → Option Int → Option Int → Hp → VK → Prop := fun x lo hi H Q => rSlS x lo hi H Q ∨ (rSlL K x lo hi H Q ∨ rSlA K x lo hi H Q)
theorem sl_z : SlR X (zSl X.K) := SlR.or sl_str (SlR.or sl_list sl_tupA)
/-- t[::-1], t a text -/
def zRev (K : PySem.W.Frag) : V → Hp → VK → Prop := fun x H Q => ∃ z, x = .str z ∧ z.length ≤ sizeLine ∧ Q (.str (tx z.cps.toList.reverse)) H
theorem rev_picked (n : Nat) : Builtin.Str.strSliceIndices none none (-1) n = (List.range n).reverse := by
  rw [← PySem.W.krv_range n, ← PySem.W.krv_sliceRange n]
  rfl
theorem pe_rev {e : Expr} {te : TE} {p1 p2 p3 pos : Pos} {kk : Nat} (he : PE X e te) :
    PE X (.Subscript e (.Slice none none (some (.UnaryOp .USub (.Constant (.int 1) kk p1) p2)) p3) pos) (tUn (zRev X.K) te) := by
  refine ⟨fun pins s σ H Q I h => ?_⟩
  refine Subscript_ (thn (he.run pins s σ H _ I h) fun v s1 ⟨x, H1, I1, r1, q1⟩ => ?_)
  obtain ⟨z, rfl, hz, q⟩ := q1
  obtain ⟨t, rfl⟩ := r1
  have pm : PE X (.UnaryOp .USub (.Constant (.int 1) kk p1) p2) (tUn (rU fun i => .int (-i)) (tC (.int 1))) := pe_un un_neg pe_int
  refine wpAny_Slice ?_
  rw [evalPart_none]
  refine wpAny_pure (wpAny_pure ?_)
  rw [evalPart_some]
  refine thn (pm.run pins s1 σ H1 (fun y H2 => y = .int (-1) ∧ H2 = H1) I1 ⟨1, rfl, rfl, rfl⟩) fun vu s2 ⟨y, H2, I2, ry, e1, e2⟩ => ?_
  subst e1 e2
  obtain ⟨tk, rfl⟩ := ry
  have I4 : Inv X pins σ H2 { s2 with heap := s2.heap.push { cls := .type "slice", data := .fields #[.none, .none, .int (-1) tk] } } := I2.kept (t' := s2.toks) fun b ob q => Heap.get?_push_of_some _ q
  have hsl : (s2.heap.push { cls := .type "slice", data := .fields #[.none, .none, .int (-1) tk] }).IsSlice s2.heap.objs.size none none (some (-1, tk)) := ⟨_, Heap.get?_push_size _ rfl, rfl, rfl⟩
  have hmade : sliceMade z t none none (some (-1, tk)) = Made.str (tx z.cps.toList.reverse) := by
    unfold sliceMade
    rw [if_neg (by simp)]
    have e1 : slicePicked z none none (some (-1, tk)) = (List.range z.length).reverse := rev_picked _
    rw [e1, List.filterMap_reverse]
    have e2 : (List.range z.length).filterMap (fun x => z.cps[x]?) = z.cps.toList := by
      have := PySem.W.krv_all z.cps
      exact this
    rw [e2]
    rfl
  have hlen : (tx z.cps.toList.reverse).length ≤ sizeLine := by rw [tx_length, List.length_reverse, Array.length_toList]; exact hz
  refine tail_any (T := "str") (ops := [.ref s2.heap.objs.size, .str z t]) (typeIs_str _ _ _) PySem.F.slot_str_getitem.lookup ?_ (by with_unfolding_all rfl)
  refine wpAny_getItem_str_slice (l := none) (u := none) (st := some (-1, tk)) hsl rfl ?_
  rw [hmade]
  exact ⟨hlen, .str _, H2, I4.tok _, ⟨_, rfl⟩, q⟩

/-! ### built-ins -/
def zLen (K : PySem.W.Frag) : List V → Hp → VK → Prop := fun xs H Q => (∃ x n, xs = [x] ∧ LenV K x H n ∧ Q (.int n) H) ∨ ∃ a kvs, xs = [V.ref a] ∧ H a = some (.dK kvs) ∧ Q (.int kvs.length) H
theorem call_zLen : CallR X (.builtin "len") (zLen X.K) := CallR.or call_len call_lenD
def zInt : List V → Hp → VK → Prop := fun xs H Q => (∃ i, xs = [.int i] ∧ Q (.int i) H) ∨ ∃ k, xs = [.bl k] ∧ Q (.int (if k then 1 else 0)) H
theorem call_zInt : CallR X (.type "int") zInt := call_int1
def zMin2 : List V → Hp → VK → Prop := fun xs H Q => ∃ i j, xs = [.int i, .int j] ∧ Q (.int (if j < i then j else i)) H
def zMax2 : List V → Hp → VK → Prop := fun xs H Q => ∃ i j, xs = [.int i, .int j] ∧ Q (.int (if j > i then j else i)) H
theorem call_zMin2 (hc : X.calm = true) : CallR X (.builtin "min") zMin2 := call_min2 hc
theorem call_zMax2 (hc : X.calm = true) : CallR X (.builtin "max") zMax2 := call_max2 hc
def zIsi (K : PySem.W.Frag) : List V → Hp → VK → Prop := rIsi K
theorem call_zIsi : CallR X (.builtin "isinstance") (zIsi X.K) := call_isi
end

/-! ### by data -/
section
variable {B : Bx} {i j k : Int} {a b : List Nat} {p q : Bool} {as bs : List D} {d e : D}
theorem Fw.id {G H : Hp} (s : Same G H) : Fw G H G H := Fw.refl s
theorem rv_add : RV B (zAdd B.K) (.int i) (.int j) (.int (i + j)) := fun x y G H Q s rx ry q => by
  cases rx; cases ry; exact .inl ⟨i, j, rfl, rfl, q _ G H (.refl s) (.int _)⟩
theorem rv_addT (h : a.length + b.length ≤ 16777216) : RV B (zAdd B.K) (.str (tx a)) (.str (tx b)) (.str (tx (a ++ b))) := fun x y G H Q s rx ry q => by
  cases rx; cases ry; exact .inr (.inl ⟨_, _, rfl, rfl, by rw [tx_length, tx_length]; exact line_le h, q _ G H (.refl s) (by rw [tx_append]; exact .str _)⟩)
theorem rv_addL (h : as.length + bs.length ≤ 16777216) : RV B (zAdd B.K) (.lst as) (.lst bs) (.lst (as ++ bs)) := fun x y G H Q s rx ry q => by
  cases rx with
  | lst h1 r1 =>
    cases ry with
    | lst h2 r2 =>
      refine .inr (.inr (.inl ⟨_, _, _, _, rfl, rfl, same_l s h1, same_l s h2, by rw [r1.length, r2.length]; exact line_le h, fun p hp => q _ _ _ (.new s hp) (.lst (.inl (.inl upd_same)) ?_)⟩))
      exact (r1.append r2).mono (Fw.new (o := .lst _) s hp).g
theorem rv_addU (h : as.length + bs.length ≤ 16777216) : RV B (zAdd B.K) (.tup as) (.tup bs) (.tup (as ++ bs)) := fun x y G H Q s rx ry q => by
  cases rx with
  | tup h1 r1 =>
    cases ry with
    | tup h2 r2 =>
      refine .inr (.inr (.inr ⟨_, _, _, _, rfl, rfl, same_t s h1, same_t s h2, by rw [r1.length, r2.length]; exact line_le h, fun e => ?_, fun n e => ?_, fun n m p hp => ?_⟩))
      · subst e; cases r1; exact q _ G H (.refl s) (.tup h2 r2)
      · subst e; cases r2; exact q _ G H (.refl s) (.tup h1 (by rw [List.append_nil]; exact r1))
      · exact q _ _ _ (.new s hp) (.tup (.inl (.inl upd_same)) ((r1.append r2).mono (Fw.new (o := .tup _) s hp).g))
theorem rv_sub : RV B zSub (.int i) (.int j) (.int (i - j)) := fun x y G H Q s rx ry q => by
  cases rx; cases ry; exact ⟨i, j, rfl, rfl, q _ G H (.refl s) (.int _)⟩
theorem rv_mul (h : CMulW i j) : RV B zMul (.int i) (.int j) (.int (i * j)) := fun x y G H Q s rx ry q => by
  cases rx; cases ry; exact .inl ⟨i, j, rfl, rfl, h, q _ G H (.refl s) (.int _)⟩
theorem rv_div (h : CDivW i j) : RV B zDiv (.int i) (.int j) (.int (i / j)) := fun x y G H Q s rx ry q => by
  cases rx; cases ry; exact ⟨i, j, rfl, rfl, h, q _ G H (.refl s) (.int _)⟩
theorem rv_mod (h : 0 < j) : RV B zMod (.int i) (.int j) (.int (i % j)) := fun x y G H Q s rx ry q => by
  cases rx; cases ry; exact ⟨i, j, rfl, rfl, h, q _ G H (.refl s) (.int _)⟩
theorem rv_pow (h : CPow i j) : RV B zPow (.int i) (.int j) (.int (i ^ j.toNat)) := fun x y G H Q s rx ry q => by
  cases rx; cases ry; exact ⟨i, j, rfl, rfl, h, q _ G H (.refl s) (.int _)⟩
/-- a text n times -/
def rep (n : Nat) (a : List Nat) : List Nat := (List.replicate n a).flatten
theorem rep_length (n : Nat) (a : List Nat) : (rep n a).length = n * a.length := by simp [rep]
theorem fold_rep (a : List Nat) : ∀ (n : Nat) (acc : Array Nat), (List.replicate n a.toArray).foldl (· ++ ·) acc = acc ++ (rep n a).toArray
  | 0, acc => by simp [rep]
  | n + 1, acc => by
    rw [List.replicate_succ, List.foldl_cons, fold_rep a n]
    simp [rep, List.replicate_succ]
theorem txt_mul (a : List Nat) (k : Int) : Txt.mul (tx a) k = tx (rep k.toNat a) := by
  unfold Txt.mul
  by_cases h1 : k < 1
  · rw [if_pos h1]
    have : k.toNat = 0 := by omega
    rw [this]; rfl
  · rw [if_neg h1]
    by_cases h2 : (k == 1 || (tx a).length == 0) = true
    · rw [if_pos h2]
      rw [Bool.or_eq_true] at h2
      rcases h2 with h2 | h2
      · have : k = 1 := by simpa using h2
        subst this
        simp [rep, tx]
      · rw [tx_length] at h2
        have : a = [] := by simpa using h2
        subst this
        congr 1
        simp [rep, tx]
    · rw [if_neg h2]
      show (⟨_⟩ : Str) = ⟨_⟩
      congr 1
      have := fold_rep a k.toNat #[]
      simpa [tx] using this
theorem rv_mulT (h1 : -(2 ^ 62) < k) (h2 : k < 2 ^ 62) (h : a.length * k.toNat ≤ 16777216) : RV B zMul (.str (tx a)) (.int k) (.str (tx (rep k.toNat a))) := fun x y G H Q s rx ry q => by
  cases rx; cases ry
  refine .inr (.inl ⟨_, k, rfl, rfl, ⟨?_, fun h3 h4 => ?_, fun h3 h4 => ?_⟩, ?_⟩)
  · have e1 : ¬ k < -(2 ^ 63 : Int) := by omega
    have e2 : ¬ k ≥ (2 ^ 63 : Int) := by omega
    rw [decide_eq_false e1, decide_eq_false e2]; rfl
  · rw [tx_length]
    intro h5
    have h6 : (a.length : Int) * k ≤ 16777216 := by
      have : ((a.length * k.toNat : Nat) : Int) ≤ 16777216 := Int.ofNat_le.mpr h
      have e : (k.toNat : Int) = k := Int.toNat_of_nonneg (by omega)
      rw [Int.natCast_mul, e] at this
      exact this
    have h7 : (2 ^ 63 - 1) / k * k ≤ 2 ^ 63 - 1 := Int.ediv_mul_le _ (by omega)
    have h8 : 0 < k := by omega
    have h9 : ((2 ^ 63 - 1) / k + 1) * k > 2 ^ 63 - 1 := by
      have := Int.lt_ediv_add_one_mul_self (2 ^ 63 - 1) h8
      exact this
    have h10 : ((2 ^ 63 - 1) / k + 1) * k ≤ (a.length : Int) * k := Int.mul_le_mul_of_nonneg_right (by omega) (by omega)
    omega
  · rw [tx_length]
    unfold Builtin.Str.tooLong
    rw [sizeLine_eq]
    simp
    exact h
  · rw [txt_mul]; exact q _ G H (.refl s) (.str _)

theorem rv_lt : RV B zLt (.int i) (.int j) (.bl (decide (i < j))) := fun x y G H Q s rx ry q => by
  cases rx; cases ry; exact ⟨i, j, rfl, rfl, q _ G H (.refl s) (.bl _)⟩
theorem rv_le : RV B zLe (.int i) (.int j) (.bl (decide (i ≤ j))) := fun x y G H Q s rx ry q => by
  cases rx; cases ry; exact ⟨i, j, rfl, rfl, q _ G H (.refl s) (.bl _)⟩
theorem rv_gt : RV B zGt (.int i) (.int j) (.bl (decide (j < i))) := fun x y G H Q s rx ry q => by
  cases rx; cases ry; exact ⟨i, j, rfl, rfl, q _ G H (.refl s) (.bl _)⟩
theorem rv_ge : RV B zGe (.int i) (.int j) (.bl (decide (j ≤ i))) := fun x y G H Q s rx ry q => by
  cases rx; cases ry; exact ⟨i, j, rfl, rfl, q _ G H (.refl s) (.bl _)⟩

/-! equality -/
mutual
def D.py : D → Option PyData
  | .non => some .none
  | .bl b => some (.bool b)
  | .int i => some (.int i)
  | .str x => some (.str x)
  | .lst l => (pyAll l).map .list
  | .tup l => (pyAll l).map .tuple
  | _ => none
def pyAll : List D → Option (List PyData)
  | [] => some []
  | d :: r => (D.py d).bind fun p => (pyAll r).map fun q => p :: q
end
mutual
theorem Rp.dp {K : PySem.W.Frag} {G H : Hp} (s : Same G H) : ∀ {v : V} {d : D} {p : PyData}, Rp K G v d → d.py = some p → Dp K H v p
  | _, _, _, .non, e => by cases e; exact .non
  | _, _, _, .bl b, e => by cases e; exact .bl b
  | _, _, _, .int b, e => by cases e; exact .int b
  | _, _, _, .str b, e => by cases e; exact .str b
  | _, _, _, .ty b, e => by cases e
  | _, _, _, .ref b, e => by cases e
  | _, _, _, .obj _ _, e => by cases e
  | _, _, _, .xc _ _, e => by cases e
  | _, _, _, .dk _ _, e => by cases e
  | _, _, _, .lst (ds := ds) h r, e => by
    have e' : (pyAll ds).map PyData.list = some _ := e
    cases q : pyAll ds with
    | none => rw [q] at e'; cases e'
    | some ps => rw [q] at e'; cases e'; exact .lst (same_l s h) (Rps.dp s r q)
  | _, _, _, .tup (ds := ds) h r, e => by
    have e' : (pyAll ds).map PyData.tuple = some _ := e
    cases q : pyAll ds with
    | none => rw [q] at e'; cases e'
    | some ps => rw [q] at e'; cases e'; exact .tup (same_t s h) (Rps.dp s r q)
theorem Rps.dp {K : PySem.W.Frag} {G H : Hp} (s : Same G H) : ∀ {v : List V} {d : List D} {p : List PyData}, Rps K G v d → pyAll d = some p → DpAll K H v p
  | _, _, _, .nil, e => by cases e; exact .nil
  | _, _, _, .cons (d := d) (ds := ds) h r, e => by
    have e' : (D.py d).bind (fun p => (pyAll ds).map fun q => p :: q) = some _ := e
    cases q : D.py d with
    | none => rw [q] at e'; cases e'
    | some x =>
      rw [q] at e'
      cases q2 : pyAll ds with
      | none => rw [q2] at e'; cases e'
      | some y =>
        rw [q2] at e'
        cases e'
        exact .cons (Rp.dp s h q) (Rps.dp s r q2)
end
theorem rv_eqD {u v : PyData} (h1 : d.py = some u) (h2 : e.py = some v) (s1 : SeqAt.shaped u = true) (s2 : SeqAt.shaped v = true) : RV B (zEq B.K) d e (.bl (PyData.eqv u v)) := fun x y G H Q s rx ry q =>
  .inr ⟨u, v, rx.dp s h1, ry.dp s h2, s1, s2, q _ G H (.refl s) (.bl _)⟩
theorem rv_neD {u v : PyData} (h1 : d.py = some u) (h2 : e.py = some v) (s1 : SeqAt.shaped u = true) (s2 : SeqAt.shaped v = true) : RV B (zNe B.K) d e (.bl (!PyData.eqv u v)) := fun x y G H Q s rx ry q =>
  .inr ⟨u, v, rx.dp s h1, ry.dp s h2, s1, s2, q _ G H (.refl s) (.bl _)⟩
theorem rv_eqI : RV B (zEq B.K) (.int i) (.int j) (.bl (decide (i = j))) := fun x y G H Q s rx ry q => by
  cases rx; cases ry
  refine .inl ⟨rfl, ?_⟩
  have e : decide (V.int i = V.int j) = decide (i = j) := by rw [dec_int, Bool.beq_eq_decide_eq]
  rw [e]; exact q _ G H (.refl s) (.bl _)
theorem rv_neI : RV B (zNe B.K) (.int i) (.int j) (.bl (!decide (i = j))) := fun x y G H Q s rx ry q => by
  cases rx; cases ry
  refine .inl ⟨rfl, ?_⟩
  have e : decide (V.int i = V.int j) = decide (i = j) := by rw [dec_int, Bool.beq_eq_decide_eq]
  rw [e]; exact q _ G H (.refl s) (.bl _)
theorem dec_tx (a b : List Nat) : decide (V.str (tx a) = V.str (tx b)) = decide (a = b) := by
  rw [Bool.eq_iff_iff]; simp [tx_inj]
theorem rv_eqT : RV B (zEq B.K) (.str (tx a)) (.str (tx b)) (.bl (decide (a = b))) := fun x y G H Q s rx ry q => by
  cases rx; cases ry
  refine .inl ⟨rfl, ?_⟩
  rw [dec_tx]; exact q _ G H (.refl s) (.bl _)
theorem rv_neT : RV B (zNe B.K) (.str (tx a)) (.str (tx b)) (.bl (!decide (a = b))) := fun x y G H Q s rx ry q => by
  cases rx; cases ry
  refine .inl ⟨rfl, ?_⟩
  rw [dec_tx]; exact q _ G H (.refl s) (.bl _)
theorem rv_eqB : RV B (zEq B.K) (.bl p) (.bl q) (.bl (p == q)) := fun x y G H Q s rx ry k => by
  cases rx; cases ry
  refine .inl ⟨rfl, ?_⟩
  rw [dec_bl]; exact k _ G H (.refl s) (.bl _)
theorem rv_neB : RV B (zNe B.K) (.bl p) (.bl q) (.bl (!(p == q))) := fun x y G H Q s rx ry k => by
  cases rx; cases ry
  refine .inl ⟨rfl, ?_⟩
  rw [dec_bl]; exact k _ G H (.refl s) (.bl _)

/-! in -/
theorem rv_inT {c : Nat} : RV B (zIn B.K false) (.str (tx [c])) (.str (tx a)) (.bl (decide (c ∈ a))) := fun x y G H Q s rx ry q => by
  cases rx; cases ry
  refine .inl ⟨_, _, rfl, rfl, ?_⟩
  have e : (!(Builtin.Str.occurrences (tx a) (tx [c]) 0 (tx a).length 1).isEmpty) = decide (c ∈ a) := by
    have := StrLaws.found_one (tx a) c
    rw [tx_cps] at this
    exact this
  show Q (.bl (!(Builtin.Str.occurrences (tx a) (tx [c]) 0 (tx a).length 1).isEmpty)) H
  rw [e]; exact q _ G H (.refl s) (.bl _)
theorem rv_ninT {c : Nat} : RV B (zIn B.K true) (.str (tx [c])) (.str (tx a)) (.bl (!decide (c ∈ a))) := fun x y G H Q s rx ry q => by
  cases rx; cases ry
  refine .inl ⟨_, _, rfl, rfl, ?_⟩
  have e : (!(Builtin.Str.occurrences (tx a) (tx [c]) 0 (tx a).length 1).isEmpty) = decide (c ∈ a) := by
    have := StrLaws.found_one (tx a) c
    rw [tx_cps] at this
    exact this
  show Q (.bl (!(!(Builtin.Str.occurrences (tx a) (tx [c]) 0 (tx a).length 1).isEmpty))) H
  rw [e]; exact q _ G H (.refl s) (.bl _)
theorem inV_txs (x : List Nat) : ∀ xs : List (List Nat), inV (.str (tx x)) (xs.map fun a => V.str (tx a)) = decide (x ∈ xs)
  | [] => by simp [inV]
  | y :: r => by
    have ih := inV_txs x r
    unfold inV at ih ⊢
    rw [List.map_cons, List.any_cons, ih]
    show ((tx y) == (tx x) || decide (x ∈ r)) = decide (x ∈ y :: r)
    rw [Bool.eq_iff_iff]
    simp [tx_inj]
    constructor <;> rintro (h | h) <;> first | exact .inl h.symm | exact .inr h
theorem flat_txs : ∀ xs : List (List Nat), (xs.map fun a => V.str (tx a)).all flatV = true
  | [] => rfl
  | _ :: r => by rw [List.map_cons, List.all_cons, flat_txs r]; rfl
theorem rps_txs_inv {K : PySem.W.Frag} {G : Hp} : ∀ {vs : List V} {xs : List (List Nat)}, Rps K G vs (xs.map fun a => D.str (tx a)) → vs = xs.map fun a => V.str (tx a)
  | _, [], h => by cases h; rfl
  | _, n :: r, h => by
    cases h with
    | cons h q =>
      cases h
      rw [rps_txs_inv q] <;> rfl
theorem rps_txs {K : PySem.W.Frag} {G : Hp} : ∀ xs : List (List Nat), Rps K G (xs.map fun a => V.str (tx a)) (xs.map fun a => D.str (tx a))
  | [] => .nil
  | n :: r => .cons (.str _) (rps_txs r)
theorem rv_inTs {xs : List (List Nat)} : RV B (zIn B.K false) (.str (tx a)) (.tup (xs.map fun a => .str (tx a))) (.bl (decide (a ∈ xs))) := fun x y G H Q s rx ry q => by
  cases rx
  cases ry with
  | tup h r =>
    have e := rps_txs_inv r
    subst e
    refine .inr (.inl ⟨_, _, rfl, .inr (same_t s h), rfl, flat_txs xs, ?_⟩)
    show Q (.bl (inV (.str (tx a)) (xs.map fun a => V.str (tx a)))) H
    rw [inV_txs]; exact q _ G H (.refl s) (.bl _)
theorem rv_ninTs {xs : List (List Nat)} : RV B (zIn B.K true) (.str (tx a)) (.tup (xs.map fun a => .str (tx a))) (.bl (!decide (a ∈ xs))) := fun x y G H Q s rx ry q => by
  cases rx
  cases ry with
  | tup h r =>
    have e := rps_txs_inv r
    subst e
    refine .inr (.inl ⟨_, _, rfl, .inr (same_t s h), rfl, flat_txs xs, ?_⟩)
    show Q (.bl (!inV (.str (tx a)) (xs.map fun a => V.str (tx a)))) H
    rw [inV_txs]; exact q _ G H (.refl s) (.bl _)
theorem rv_isN : RV B zIsN .non .non (.bl true) := fun x y G H Q s rx ry q => by
  cases rx; cases ry; exact ⟨rfl, q _ G H (.refl s) (.bl _)⟩
def D.isNon : D → Bool
  | .non => true
  | _ => false
theorem rp_non {K : PySem.W.Frag} {G : Hp} {v : V} {d : D} (r : Rp K G v d) : decide (v = .non) = d.isNon := by
  cases r <;> rfl
theorem rv_isN' : RV B zIsN d .non (.bl d.isNon) := fun x y G H Q s rx ry q => by
  cases ry; refine ⟨rfl, ?_⟩; rw [rp_non rx]; exact q _ G H (.refl s) (.bl _)
theorem rv_notN' : RV B zNotN d .non (.bl (!d.isNon)) := fun x y G H Q s rx ry q => by
  cases ry; refine ⟨rfl, ?_⟩; rw [rp_non rx]; exact q _ G H (.refl s) (.bl _)

/-! items -/
theorem atI_rps {K : PySem.W.Frag} {G : Hp} {vs : List V} {ds : List D} (r : Rps K G vs ds) (h : atI ds i = some d) : ∃ v, atI vs i = some v ∧ Rp K G v d := by
  unfold atI at h ⊢
  rw [r.length]
  cases e : ixN ds.length i with
  | none => rw [e] at h; cases h
  | some n =>
    rw [e] at h
    exact r.get h
theorem rv_ixL (h : atI as i = some d) : RV B (zIx B.K) (.lst as) (.int i) d := fun x y G H Q s rx ry q => by
  cases ry
  cases rx with
  | lst h1 r1 =>
    obtain ⟨v, e, r⟩ := atI_rps r1 h
    exact .inl (.inl ⟨_, _, i, v, rfl, rfl, same_l s h1, e, q v G H (.refl s) r⟩)
theorem rv_ixU (h : atI as i = some d) : RV B (zIx B.K) (.tup as) (.int i) d := fun x y G H Q s rx ry q => by
  cases ry
  cases rx with
  | tup h1 r1 =>
    obtain ⟨v, e, r⟩ := atI_rps r1 h
    exact .inl (.inr (.inl ⟨_, _, i, v, rfl, rfl, same_t s h1, e, q v G H (.refl s) r⟩))
theorem rv_ixT {c : Nat} (h : atI a i = some c) (hl : a.length ≤ 16777216) : RV B (zIx B.K) (.str (tx a)) (.int i) (.str (tx [c])) := fun x y G H Q s rx ry q => by
  cases ry; cases rx
  exact .inl (.inr (.inr ⟨_, i, c, rfl, rfl, by rw [tx_length]; exact line_le hl, by rw [tx_cps]; exact h, q _ G H (.refl s) (.str (tx [c]))⟩))
theorem atI_ofNat {α : Type} {xs : List α} {n : Nat} {x : α} (h : xs[n]? = some x) : atI xs (n : Int) = some x := atI_nat h

/-! slices -/
def cut {α : Type} (xs : List α) (lo hi : Option Int) : List α := (xs.drop (HT.sIx xs.length 0 lo)).take (HT.sIx xs.length xs.length hi - HT.sIx xs.length 0 lo)
theorem cut_len {α : Type} (xs : List α) (lo hi : Option Int) : (cut xs lo hi).length ≤ xs.length := by
  unfold cut
  rw [List.length_take, List.length_drop]
  omega
theorem rps_cut {K : PySem.W.Frag} {G : Hp} {vs : List V} {ds : List D} (r : Rps K G vs ds) (lo hi : Option Int) : Rps K G (cutV vs lo hi) (cut ds lo hi) := by
  unfold cutV cut
  rw [r.length]
  exact (r.drop _).take _
theorem rs_slT {lo hi : Option Int} (hl : a.length ≤ 16777216) : RS B (zSl B.K) (.str (tx a)) lo hi (.str (tx (cut a lo hi))) := fun x G H Q s rx q => by
  cases rx
  refine .inl ⟨_, rfl, by rw [tx_length]; exact line_le hl, ?_⟩
  have e : cutS (tx a) lo hi = tx (cut a lo hi) := by
    unfold cutS cut
    rw [tx_length, tx_cps]
    rfl
  rw [e]; exact q _ G H (.refl s) (.str _)
theorem rs_slL {lo hi : Option Int} : RS B (zSl B.K) (.lst as) lo hi (.lst (cut as lo hi)) := fun x G H Q s rx q => by
  cases rx with
  | lst h1 r1 =>
    refine .inr (.inl ⟨_, _, rfl, same_l s h1, fun p hp => q _ _ _ (.new s hp) (.lst (.inl (.inl upd_same)) ?_)⟩)
    exact (rps_cut r1 lo hi).mono (Fw.new (o := .lst _) s hp).g
theorem rs_slU {lo hi : Option Int} : RS B (zSl B.K) (.tup as) lo hi (.tup (cut as lo hi)) := fun x G H Q s rx q => by
  cases rx with
  | tup h1 r1 =>
    refine .inr (.inr ⟨_, _, rfl, same_t s h1, fun e => ?_, fun e p hp => q _ _ _ (.new s hp) (.tup (.inl (.inl upd_same)) ?_)⟩)
    · refine q _ G H (.refl s) (.tup h1 ?_)
      have e2 : cut as lo hi = as := by
        unfold cut
        rw [r1.length] at e
        rw [e.1, e.2]
        simp
      rw [e2]; exact r1
    · exact (rps_cut r1 lo hi).mono (Fw.new (o := .tup _) s hp).g
theorem ru_rev (hl : a.length ≤ 16777216) : RU B (zRev B.K) (.str (tx a)) (.str (tx a.reverse)) := fun x G H Q s rx q => by
  cases rx
  refine ⟨_, rfl, by rw [tx_length]; exact line_le hl, ?_⟩
  rw [tx_cps]; exact q _ G H (.refl s) (.str _)

/-! built-ins -/
theorem rc_lenT (hl : a.length ≤ 16777216) : RC B (zLen B.K) [.str (tx a)] (.int a.length) := fun xs G H Q s r q => by
  cases r with
  | cons r1 r2 =>
    cases r1; cases r2
    exact .inl ⟨_, _, rfl, ⟨by rw [tx_length]; exact line_le hl, rfl⟩, by rw [tx_length]; exact q _ G H (.refl s) (.int _)⟩
theorem rc_lenL : RC B (zLen B.K) [.lst as] (.int as.length) := fun xs G H Q s r q => by
  cases r with
  | cons r1 r2 =>
    cases r2
    cases r1 with
    | lst h1 r1 => exact .inl ⟨_, _, rfl, .inl ⟨_, same_l s h1, rfl⟩, by rw [r1.length]; exact q _ G H (.refl s) (.int _)⟩
theorem rc_lenU : RC B (zLen B.K) [.tup as] (.int as.length) := fun xs G H Q s r q => by
  cases r with
  | cons r1 r2 =>
    cases r2
    cases r1 with
    | tup h1 r1 => exact .inl ⟨_, _, rfl, .inr ⟨_, same_t s h1, rfl⟩, by rw [r1.length]; exact q _ G H (.refl s) (.int _)⟩
theorem rc_int : RC B zInt [.int i] (.int i) := fun xs G H Q s r q => by
  cases r with
  | cons r1 r2 => cases r1; cases r2; exact .inl ⟨i, rfl, q _ G H (.refl s) (.int _)⟩
theorem rc_intB : RC B zInt [.bl p] (.int (if p then 1 else 0)) := fun xs G H Q s r q => by
  cases r with
  | cons r1 r2 => cases r1; cases r2; exact .inr ⟨p, rfl, q _ G H (.refl s) (.int _)⟩
theorem rc_min : RC B zMin2 [.int i, .int j] (.int (if j < i then j else i)) := fun xs G H Q s r q => by
  cases r with
  | cons r1 r2 => cases r1; cases r2 with | cons r3 r4 => cases r3; cases r4; exact ⟨i, j, rfl, q _ G H (.refl s) (.int _)⟩
theorem rc_max : RC B zMax2 [.int i, .int j] (.int (if j > i then j else i)) := fun xs G H Q s r q => by
  cases r with
  | cons r1 r2 => cases r1; cases r2 with | cons r3 r4 => cases r3; cases r4; exact ⟨i, j, rfl, q _ G H (.refl s) (.int _)⟩
end
end Z

/-! Z5: statements, loops, comprehensions. -/
namespace Z
open PySem PySem.Spec PyProof.Rows L2

structure Po where
  nx : List Sl → Prop
  rt : Sl → Prop
  bk : List Sl → Prop := fun _ => False
  ct : List Sl → Prop := fun _ => False
  xc : Xc → List Sl → Prop := fun _ _ => False
  rm : D → Mem → Prop := fun _ _ => False
structure EndsOk (B : Bx) (W : WX) (P : Po) (G : Hp) (D : Ends) : Prop where
  nx : ∀ Γ σ G' H', P.nx Γ → Same G G' → Stt B Γ σ G' H' → D.nx σ H'
  bk : ∀ Γ σ G' H', P.bk Γ → Same G G' → Stt B Γ σ G' H' → D.bk σ H'
  ct : ∀ Γ σ G' H', P.ct Γ → Same G G' → Stt B Γ σ G' H' → D.ct σ H'
  rt : ∀ s v G' H', P.rt s → FwF B.F0 B.G0 B.H0 G' H' → RsOk B.K B.H0 G' H' s v → D.rt v H'
  xc : ∀ x Γ cls dd σ G' H', P.xc x Γ → Same G G' → Stt B Γ σ G' H' → XOk B.K G' x cls dd → W cls dd σ H'
  rm : ∀ d M v (i : Nat) (Γ : List Sl) σ G' H', P.rm d M → Γ[i]? = some (.mem M) → Stt B Γ σ G' H' → Rp B.K G' v d → D.rt v H'
def Sv (B : Bx) (W : WX) (ts : TS) (Γ : List Sl) (P : Po) : Prop := ∀ D σ G H, EndsOk B W P G D → Stt B Γ σ G H → ts D σ H

inductive SetAt : List Sl → Nat → Sl → List Sl → Prop
  | zero {x : Sl} {l : List Sl} {s : Sl} : SetAt (x :: l) 0 s (s :: l)
  | succ {x : Sl} {l l' : List Sl} {i : Nat} {s : Sl} : SetAt l i s l' → SetAt (x :: l) (i + 1) s (x :: l')
theorem SetAt.eq : ∀ {l l' : List Sl} {i : Nat} {s : Sl}, SetAt l i s l' → i < l.length ∧ l' = l.set i s
  | _, _, _, _, .zero => ⟨by simp, rfl⟩
  | _, _, _, _, .succ h => ⟨by have := h.eq.1; simp; omega, by rw [h.eq.2]; rfl⟩
theorem SetAt.of {l : List Sl} {i : Nat} {s : Sl} (h : i < l.length) : SetAt l i s (l.set i s) := by
  induction l generalizing i with
  | nil => simp at h
  | cons x l ih =>
    cases i with
    | zero => exact .zero
    | succ i => exact .succ (ih (by simpa using h))

section
variable {B : Bx} {W : WX} {Γ Γ' Γ1 Γ2 : List Sl} {P : Po} {t u : TS} {te ta : TE} {tt : TT} {aa : TA} {d e : D} {as ds : List D} {i j : Nat}

theorem EndsOk.mono {G G' : Hp} {D : Ends} (E : EndsOk B W P G D) (s : Same G G') : EndsOk B W P G' D :=
  ⟨fun Γ σ G1 H1 h s1 => E.nx Γ σ G1 H1 h (s.trans s1), fun Γ σ G1 H1 h s1 => E.bk Γ σ G1 H1 h (s.trans s1), fun Γ σ G1 H1 h s1 => E.ct Γ σ G1 H1 h (s.trans s1), E.rt,
    fun x Γ c d σ G1 H1 h s1 => E.xc x Γ c d σ G1 H1 h (s.trans s1), E.rm⟩
theorem Stt.rs {σ : L2.St} {G H G' H' : Hp} {s : Sl} {v : V} (S : Stt B Γ σ G H) (f : Fw G H G' H') (r : RsOk B.K H G' H' s v) : RsOk B.K B.H0 G' H' s v := by
  cases s with
  | un => trivial
  | dat d => exact r
  | own w =>
    obtain ⟨a, u, e, g, n, h, o⟩ := r
    exact ⟨a, u, e, g, S.fr n, h, o⟩
  | mem M => trivial
theorem sv_post {P' : Po} (h : Sv B W t Γ P) (h1 : ∀ Γ, P.nx Γ → P'.nx Γ) (h2 : ∀ s, P.rt s → P'.rt s) (h3 : ∀ Γ, P.bk Γ → P'.bk Γ) (h4 : ∀ Γ, P.ct Γ → P'.ct Γ) (h5 : ∀ x Γ, P.xc x Γ → P'.xc x Γ) (h6 : ∀ d M, P.rm d M → P'.rm d M := by exact fun _ _ q => q) : Sv B W t Γ P' := fun D σ G H E S =>
  h D σ G H ⟨fun Γ σ G' H' q => E.nx Γ σ G' H' (h1 Γ q), fun Γ σ G' H' q => E.bk Γ σ G' H' (h3 Γ q), fun Γ σ G' H' q => E.ct Γ σ G' H' (h4 Γ q), fun s v G' H' q => E.rt s v G' H' (h2 s q), fun x Γ c dd σ G' H' q => E.xc x Γ c dd σ G' H' (h5 x Γ q), fun d M v i Γ σ G' H' q => E.rm d M v i Γ σ G' H' (h6 d M q)⟩ S
theorem sv_seq (h : Sv B W t Γ { P with nx := fun Γ' => Sv B W u Γ' P }) : Sv B W (tSeq t u) Γ P := fun D σ G H E S =>
  h { D with nx := u D } σ G H ⟨fun Γ1 σ1 G1 H1 q s S1 => q D σ1 G1 H1 (E.mono s) S1, E.bk, E.ct, E.rt, E.xc, E.rm⟩ S
theorem sv_next (h : P.nx Γ) : Sv B W tNext Γ P := fun D σ G H E S => E.nx Γ σ G H h (Same.refl _) S
theorem sv_brk (h : P.bk Γ) : Sv B W tBreak Γ P := fun D σ G H E S => E.bk Γ σ G H h (Same.refl _) S
theorem sv_cont (h : P.ct Γ) : Sv B W tCont Γ P := fun D σ G H E S => E.ct Γ σ G H h (Same.refl _) S
theorem sv_set (h : Ev B te Γ d) (hs : SetAt Γ i (.dat d) Γ') (k : P.nx Γ') : Sv B W (tAsg te (gName i)) Γ P := fun D σ G H E S =>
  h σ G H _ S fun v G1 H1 f r => by
    obtain ⟨hi, rfl⟩ := hs.eq
    exact E.nx _ _ G1 H1 k f.g ((S.step f).set hi r)
theorem sv_setO {w : Ow} (h : EvO B te Γ w) (hs : SetAt Γ i (.own w) Γ') (k : P.nx Γ') : Sv B W (tAsg te (gName i)) Γ P := fun D σ G H E S =>
  h σ G H _ S fun a u G1 H1 f g n e o => by
    obtain ⟨hi, rfl⟩ := hs.eq
    exact E.nx _ _ G1 H1 k f.g ((S.step f).setO hi g e o (S.fr n) fun j _ => S.apart n j)
theorem sv_drop (h : Ev B te Γ d) (k : P.nx Γ) : Sv B W (tDrop te) Γ P := fun D σ G H E S => h σ G H _ S fun v G1 H1 f r => E.nx _ _ G1 H1 k f.g (S.step f)
theorem sv_ret (h : Ev B te Γ d) (k : P.rt (.dat d)) : Sv B W (tRet te) Γ P := fun D σ G H E S => h σ G H _ S fun v G1 H1 f r => E.rt (.dat d) v G1 H1 k (S.fw.trans f) r
theorem sv_retO {w : Ow} (h : EvO B te Γ w) (k : P.rt (.own w)) : Sv B W (tRet te) Γ P := fun D σ G H E S => h σ G H _ S fun a u G1 H1 f g n e o => E.rt (.own w) _ G1 H1 k (S.fw.trans f) ⟨a, u, rfl, g, S.fr n, e, o⟩
/-- a name of one's own object is handed back -/
theorem sv_retOv {w : Ow} (hi : Γ[i]? = some (.own w)) (k : P.rt (.own w)) : Sv B W (tRet (tVar i)) Γ P := fun D σ G H E S => by
  obtain ⟨a, u, e, g, h, o, h0⟩ := S.own hi
  exact ⟨.ref a, e, E.rt (.own w) _ G H k S.fw ⟨a, u, rfl, g, h0, h, o⟩⟩
theorem sv_retN (k : P.rt (.dat .non)) : Sv B W tRetN Γ P := fun D σ G H E S => E.rt (.dat .non) _ G H k S.fw .non
theorem sv_if {p : Bool} (h : EvT B tt Γ p) (h1 : p = true → Sv B W t Γ P) (h2 : p = false → Sv B W u Γ P) : Sv B W (tIfS tt t u) Γ P := fun D σ G H E S =>
  h σ G H _ S fun G1 H1 f => by
    cases p with
    | true => exact h1 rfl D σ G1 H1 (E.mono f.g) (S.step f)
    | false => exact h2 rfl D σ G1 H1 (E.mono f.g) (S.step f)
/-- one's own list is given up -/
theorem sv_freezeW (i : Nat) {w : Ow} (hi : Γ[i]? = some (.own w)) (hs : SetAt Γ i (.dat w.toD) Γ') (h : Sv B W t Γ' P) : Sv B W t Γ P := fun D σ G H E S => by
  obtain ⟨G1, s1, S1⟩ := S.freeze hi
  obtain ⟨_, rfl⟩ := hs.eq
  exact h D σ G1 H (E.mono s1) S1
theorem sv_freeze (i : Nat) {ds : List D} (hi : Γ[i]? = some (.own (.lst ds))) (hs : SetAt Γ i (.dat (.lst ds)) Γ') (h : Sv B W t Γ' P) : Sv B W t Γ P := sv_freezeW i hi hs h
theorem sv_freezeD (i : Nat) {ks : List (Key × D)} (hi : Γ[i]? = some (.own (.dk ks))) (hs : SetAt Γ i (.dat (.dk ks)) Γ') (h : Sv B W t Γ' P) : Sv B W t Γ P := sv_freezeW i hi hs h
theorem sv_freezeI (i : Nat) {C : Addr} {oa : Option Addr} {fs : List (Str × D)} (hi : Γ[i]? = some (.own (.ins C fs oa))) (hs : SetAt Γ i (.dat (.obj C fs)) Γ') (h : Sv B W t Γ' P) : Sv B W t Γ P := sv_freezeW i hi hs h
/-- row.append(e) -/
theorem sv_app (hi : Γ[i]? = some (.own (.lst ds))) (h : Ev B te Γ d) (hl : ds.length < 16777216) (hs : SetAt Γ i (.own (.lst (ds ++ [d]))) Γ') (k : P.nx Γ') : Sv B W (tDrop (tBM B.K "list" rAppend (tVar i) (tCons te tNil))) Γ P := fun D σ G H E S => by
  obtain ⟨a, u, e, g, hh, ⟨xs, hu, r⟩, h0⟩ := S.own hi
  subst hu
  refine ⟨.ref a, e, .inl ⟨rfl, xs, .inl (.inl hh)⟩, ?_⟩
  refine h σ G H _ S fun v G1 H1 f rv => ?_
  refine ⟨a, xs, v, rfl, rfl, f.h _ _ hh, by rw [r.length]; exact line_lt hl, ?_⟩
  obtain ⟨_, rfl⟩ := hs.eq
  exact E.nx _ _ G1 _ k f.g ((S.step f).mut hi e ⟨_, rfl, (r.mono f.g).append (.cons rv .nil)⟩)
/-- a test or value that raises -/
def EvX (B : Bx) (W : WX) (te : TE) (Γ : List Sl) (x : Xc) : Prop := ∀ σ G H Q, Stt B Γ σ G H → (∀ cls dd G' H', Fw G H G' H' → XOk B.K G' x cls dd → W cls dd σ H') → te σ H Q
theorem evx_call {F : Fn} {x : Xc} (ha : EvA B aa Γ as) (hF : F as (fun _ => False) (fun y => y = x)) : EvX B W (tCallS (spz B.K F) (WE W) aa) Γ x := fun σ G H Q S q =>
  ha σ G H _ S fun vs G1 H1 f1 r1 => ⟨G1, as, _, _, f1.e, r1, hF, fun _ _ _ _ z => z.elim, fun y cls dd G' H' hy f' xo => by
    subst hy; exact q cls dd G' H' (f1.trans f') xo⟩
theorem svx_drop {x : Xc} (h : EvX B W te Γ x) (k : P.xc x Γ) : Sv B W (tDrop te) Γ P := fun D σ G H E S => h σ G H _ S fun cls dd G1 H1 f o => E.xc x Γ cls dd σ G1 H1 k f.g (S.step f) o
theorem svx_ret {x : Xc} (h : EvX B W te Γ x) (k : P.xc x Γ) : Sv B W (tRet te) Γ P := fun D σ G H E S => h σ G H _ S fun cls dd G1 H1 f o => E.xc x Γ cls dd σ G1 H1 k f.g (S.step f) o
theorem svx_set {x : Xc} {g : TG} (h : EvX B W te Γ x) (k : P.xc x Γ) : Sv B W (tAsg te g) Γ P := fun D σ G H E S => h σ G H _ S fun cls dd G1 H1 f o => E.xc x Γ cls dd σ G1 H1 k f.g (S.step f) o

/-! ### targets -/
def EvG (B : Bx) (g : TG) (Γ : List Sl) (d : D) (Γ' : List Sl) : Prop := ∀ σ G H v Q, Stt B Γ σ G H → Rp B.K G v d → (∀ σ', Stt B Γ' σ' G H → Q σ' H) → g v σ H Q
def EvGs (B : Bx) (g : TGs) (Γ : List Sl) (ds : List D) (Γ' : List Sl) : Prop := ∀ σ G H vs Q, Stt B Γ σ G H → Rps B.K G vs ds → (∀ σ', Stt B Γ' σ' G H → Q σ' H) → g vs σ H Q
theorem evg_name (hs : SetAt Γ i (.dat d) Γ') : EvG B (gName i) Γ d Γ' := fun σ G H v Q S r q => by
  obtain ⟨hi, rfl⟩ := hs.eq
  exact q _ (S.set hi r)
theorem evgs_nil : EvGs B gNil Γ [] Γ := fun σ G H v Q S r q => by
  cases r
  exact ⟨rfl, q σ S⟩
theorem evgs_cons {g : TG} {gs : TGs} (h : EvG B g Γ d Γ1) (hr : EvGs B gs Γ1 ds Γ2) : EvGs B (gCons g gs) Γ (d :: ds) Γ2 := fun σ G H vs Q S r q => by
  cases r with
  | cons r1 r2 => exact ⟨_, _, rfl, h σ G H _ _ S r1 fun σ1 S1 => hr σ1 G H _ _ S1 r2 q⟩
theorem evg_tup {gs : TGs} {n : Nat} (h : EvGs B gs Γ ds Γ') (hn : ds.length = n) : EvG B (gTup B.K n gs) Γ (.tup ds) Γ' := fun σ G H v Q S r q => by
  cases r with
  | tup h1 r1 => exact ⟨_, _, rfl, same_t S.same h1, by rw [r1.length, hn], h σ G H _ _ S r1 q⟩
theorem sv_asg {g : TG} (h : Ev B te Γ d) (hg : EvG B g Γ d Γ') (k : P.nx Γ') : Sv B W (tAsg te g) Γ P := fun D σ G H E S =>
  h σ G H _ S fun v G1 H1 f r => hg σ G1 H1 v _ (S.step f) r fun σ' S' => E.nx _ _ G1 H1 k f.g S'

/-! ### walks -/
def Wk (K : PySem.W.Frag) (G1 : Hp) (J : It) (es : List D) : Prop := ∃ (Gd : Hp → Prop) (Y : Nat → Hp → V → Hp → Prop), Walk J es.length Gd Y ∧ (∀ G H, Same G1 G → Same G H → Gd H) ∧
  (∀ i H x H' G, i < es.length → Same G1 G → Same G H → Y i H x H' → ∃ d G', es[i]? = some d ∧ Fw G H G' H' ∧ Rp K G' x d)
def EvI (B : Bx) (wi : TI) (Γ : List Sl) (es : List D) : Prop := ∀ σ G H R, Stt B Γ σ G H → (∀ J G1 H1, Fw G H G1 H1 → Wk B.K G1 J es → R J H1) → wi σ H R
theorem wk_at {K : PySem.W.Frag} {G1 : Hp} {J : It} {xs : List V} {Gd : Hp → Prop} (w : Walk J xs.length Gd (YAt xs)) (hG : ∀ G H, Same G1 G → Same G H → Gd H) (r : Rps K G1 xs ds) : Wk K G1 J ds := by
  have hl := r.length
  refine ⟨Gd, YAt xs, by rw [← hl]; exact w, hG, fun i H x H' G hi s1 s2 y => ?_⟩
  obtain ⟨rfl, hx⟩ := y
  obtain ⟨d, h1, h2⟩ := r.get' hx
  exact ⟨d, G, h1, .refl s2, h2.mono s1⟩
theorem evi_list (h : Ev B te Γ (.lst ds)) : EvI B (iList B.K te) Γ ds := fun σ G H R S q =>
  h σ G H _ S fun v G1 H1 f r => by
    cases r with
    | lst h1 r1 => exact ⟨_, rfl, ⟨_, same_l f.e h1⟩, q _ G1 H1 f (wk_at walk_list (fun G H s1 s2 => same_l (s1.trans s2) h1) r1)⟩
theorem evi_tup (h : Ev B te Γ (.tup ds)) : EvI B (iTup B.K te) Γ ds := fun σ G H R S q =>
  h σ G H _ S fun v G1 H1 f r => by
    cases r with
    | tup h1 r1 => exact ⟨_, rfl, ⟨_, same_t f.e h1⟩, q _ G1 H1 f (wk_at walk_tup (fun G H s1 s2 => same_t (s1.trans s2) h1) r1)⟩
theorem evi_str {a : List Nat} (h : Ev B te Γ (.str (tx a))) : EvI B (iStr te) Γ (a.map fun c => .str (tx [c])) := fun σ G H R S q =>
  h σ G H _ S fun v G1 H1 f r => by
    cases r
    have hz : (tx a).cps.size = a.length := by simp [tx]
    refine ⟨_, rfl, q _ G1 H1 f ⟨_, _, by rw [List.length_map, ← hz]; exact walk_str, fun _ _ _ _ => trivial, fun i H x H' G hi s1 s2 y => ?_⟩⟩
    obtain ⟨rfl, c, hc, rfl⟩ := y
    have hc' : a[i]? = some c := by simpa [tx] using hc
    exact ⟨.str (tx [c]), G, by rw [List.getElem?_map, hc']; rfl, .refl s2, .str _⟩
theorem evi_rng1 {n : Int} (h : EvA B aa Γ [.int n]) (hn : -(2 ^ 62) ≤ n ∧ n < 2 ^ 62) : EvI B (iRng1 aa) Γ ((List.range n.toNat).map fun k => .int (k : Nat)) := fun σ G H R S q =>
  h σ G H _ S fun vs G1 H1 f r => by
    cases r with
    | cons r1 r2 =>
      cases r1; cases r2
      refine ⟨n, rfl, hn.1, hn.2, q _ G1 H1 f ⟨_, _, by rw [List.length_map, List.length_range]; exact walk_range, fun _ _ _ _ => trivial, fun i H x H' G hi s1 s2 y => ?_⟩⟩
      obtain ⟨rfl, rfl⟩ := y
      rw [List.length_map, List.length_range] at hi
      exact ⟨.int (i : Nat), G, by rw [List.getElem?_map, List.getElem?_range hi]; rfl, .refl s2, by show Rp B.K G (V.int (0 + (i : Int))) (D.int (i : Int)); rw [Int.zero_add]; exact .int _⟩
theorem evi_rng2 {m n : Int} (h : EvA B aa Γ [.int m, .int n]) (hm : -(2 ^ 62) ≤ m ∧ m < 2 ^ 62) (hn : -(2 ^ 62) ≤ n ∧ n < 2 ^ 62) : EvI B (iRng2 aa) Γ ((List.range (n - m).toNat).map fun k => .int (m + (k : Nat))) := fun σ G H R S q =>
  h σ G H _ S fun vs G1 H1 f r => by
    cases r with
    | cons r1 r2 =>
      cases r2 with
      | cons r2 r3 =>
      cases r1; cases r2; cases r3
      refine ⟨m, n, rfl, ⟨hm.1, hm.2, hn.1, hn.2⟩, q _ G1 H1 f ⟨_, _, by rw [List.length_map, List.length_range]; exact walk_range, fun _ _ _ _ => trivial, fun i H x H' G hi s1 s2 y => ?_⟩⟩
      obtain ⟨rfl, rfl⟩ := y
      rw [List.length_map, List.length_range] at hi
      exact ⟨.int (m + (i : Nat)), G, by rw [List.getElem?_map, List.getElem?_range hi]; rfl, .refl s2, .int _⟩

/-! ### for -/
theorem sv_for {α : Type} (enc : α → D) (xs : List α) {wi : TI} {g : TG} {tb : TS} (hi : EvI B wi Γ (xs.map enc)) (V : List α → List Sl → Prop) (h0 : V xs Γ) (hd : ∀ Γ', V [] Γ' → P.nx Γ')
    (hs : ∀ x r Γ', (∃ pre, xs = pre ++ x :: r) → V (x :: r) Γ' → ∃ Γ2, EvG B g Γ' (enc x) Γ2 ∧ Sv B W tb Γ2 { P with nx := V r, ct := V r, bk := P.nx }) : Sv B W (tFor wi g tb) Γ P := fun D σ G H E S => by
  refine hi σ G H _ S fun J G1 H1 f w => ?_
  obtain ⟨Gd, Y, w, hG, hy⟩ := w
  rw [List.length_map] at w
  rw [List.length_map] at hy
  refine for_it w (fun i σ' H' => ∃ Γ' G', V (xs.drop i) Γ' ∧ Stt B Γ' σ' G' H' ∧ Same G1 G') ⟨Γ, G1, h0, S.step f, Same.refl _⟩ (fun i σ' H' _ p => ?_) (fun i x σ' H' H2 hlt p y => ?_) (fun σ' H' p => ?_)
  · obtain ⟨Γ', G', _, S', s'⟩ := p
    exact hG G' H' s' S'.same
  · obtain ⟨Γ', G', hv, S', s'⟩ := p
    obtain ⟨d, G2, hd', f2, r2⟩ := hy i H' x H2 G' hlt s' S'.same y
    rw [List.getElem?_map, List.getElem?_eq_getElem hlt] at hd'
    have hd2 : enc xs[i] = d := Option.some.inj hd'
    subst hd2
    have hdrop : xs.drop i = xs[i] :: xs.drop (i + 1) := List.drop_eq_getElem_cons hlt
    rw [hdrop] at hv
    obtain ⟨Γ2, hg, hb⟩ := hs xs[i] (xs.drop (i + 1)) Γ' ⟨xs.take i, by rw [← hdrop]; exact (List.take_append_drop i xs).symm⟩ hv
    refine hg σ' G2 H2 x _ (S'.step f2) r2 fun σ2 S2 => ?_
    have sG : Same G1 G2 := s'.trans f2.g
    refine hb _ σ2 G2 H2 ⟨fun Γ3 σ3 G3 H3 q s3 S3 => ⟨Γ3, G3, q, S3, sG.trans s3⟩, fun Γ3 σ3 G3 H3 q s3 S3 => E.nx Γ3 σ3 G3 H3 q ((f.g.trans sG).trans s3) S3, fun Γ3 σ3 G3 H3 q s3 S3 => ⟨Γ3, G3, q, S3, sG.trans s3⟩, E.rt,
      fun x Γ c dd σ G' H' q s3 => E.xc x Γ c dd σ G' H' q ((f.g.trans sG).trans s3), E.rm⟩ S2
  · obtain ⟨Γ', G', hv, S', s'⟩ := p
    rw [List.drop_length] at hv
    exact E.nx Γ' σ' G' H' (hd Γ' hv) (f.g.trans s') S'

/-! ### while -/
theorem sv_while {β : Type} {tc : TT} {tb : TS} (μ : β → Nat) (V : β → List Sl → Prop) (b0 : β) (h0 : V b0 Γ)
    (hs : ∀ b Γ', V b Γ' → ∃ c, EvT B tc Γ' c ∧ (c = false → P.nx Γ') ∧ (c = true → Sv B W tb Γ' { P with nx := fun Γ2 => ∃ b', μ b' < μ b ∧ V b' Γ2, ct := fun Γ2 => ∃ b', μ b' < μ b ∧ V b' Γ2, bk := P.nx })) : Sv B W (tWhile tc tb) Γ P := fun D σ G H E S => by
  refine ⟨fun m σ' H' => ∃ b Γ' G', μ b = m ∧ V b Γ' ∧ Stt B Γ' σ' G' H' ∧ Same G G', ⟨μ b0, b0, Γ, G, rfl, h0, S, Same.refl _⟩, fun m σ' H' p => ?_⟩
  obtain ⟨b, Γ', G', rfl, hv, S', s'⟩ := p
  obtain ⟨c, hc, hf, ht⟩ := hs b Γ' hv
  refine hc σ' G' H' _ S' fun G1 H1 f => ?_
  have sG : Same G G1 := s'.trans f.g
  cases c with
  | false => exact E.nx Γ' σ' G1 H1 (hf rfl) sG (S'.step f)
  | true =>
    refine ⟨fun σ2 H2 => ∃ b' Γ2 G2, μ b' < μ b ∧ V b' Γ2 ∧ Stt B Γ2 σ2 G2 H2 ∧ Same G G2, fun σ2 H2 ⟨b', Γ2, G2, l, v, S2, s2⟩ => ⟨μ b', l, b', Γ2, G2, rfl, v, S2, s2⟩, ?_⟩
    exact ht rfl _ σ' G1 H1 ⟨fun Γ3 σ3 G3 H3 ⟨b', l, v⟩ s3 S3 => ⟨b', Γ3, G3, l, v, S3, sG.trans s3⟩, fun Γ3 σ3 G3 H3 q s3 S3 => E.nx Γ3 σ3 G3 H3 q (sG.trans s3) S3, fun Γ3 σ3 G3 H3 ⟨b', l, v⟩ s3 S3 => ⟨b', Γ3, G3, l, v, S3, sG.trans s3⟩, E.rt,
      fun x Γ c dd σ G' H' q s3 => E.xc x Γ c dd σ G' H' q (sG.trans s3), E.rm⟩ (S'.step f)

/-! ### comprehensions -/
def wipeS (Γ : List Sl) : List Nat → List Sl
  | [] => Γ
  | v :: vs => (wipeS Γ vs).set v .un
theorem wipeS_len : ∀ vs : List Nat, (wipeS Γ vs).length = Γ.length
  | [] => rfl
  | v :: vs => by unfold wipeS; rw [List.length_set, wipeS_len vs]
theorem Stt.wipe {σ : L2.St} {G H : Hp} (S : Stt B Γ σ G H) : ∀ (vs : List Nat), (∀ v ∈ vs, v < Γ.length) → Stt B (wipeS Γ vs) (L2.wipe σ vs) G H
  | [], _ => S
  | v :: vs, h => by
    unfold wipeS L2.wipe
    exact (S.wipe vs fun x hx => h x (List.mem_cons_of_mem _ hx)).forget (by rw [wipeS_len]; exact h v List.mem_cons_self)
theorem Stt.other {σ : L2.St} {G H : Hp} {a : Addr} {u : HO} (S : Stt B Γ σ G H) (h0 : B.H0 a = none) (hg : G a = none) (hap : ∀ (j : Nat), ¬ Owns Γ σ j a) : Stt B Γ σ G (upd H a u) :=
  ⟨S.frame hg (.inl h0), S.len, fun j s h => S.keepSl h (hap j), S.ap, S.nw, S.nm⟩
/-- the binding of a comprehension's own names -/
def EvGw (B : Bx) (g : TG) (vs : List Nat) (Γ : List Sl) (d : D) (Γ' : List Sl) : Prop := ∀ σ G H v Q, Stt B Γ (L2.wipe σ vs) G H → Rp B.K G v d → (∀ σ', L2.wipe σ' vs = L2.wipe σ vs → Stt B Γ' σ' G H → Q σ' H) → g v (L2.wipe σ vs) H Q
theorem evgw_name (hs : SetAt Γ i (.dat d) Γ') : EvGw B (gName i) [i] Γ d Γ' := fun σ G H v Q S r q => by
  obtain ⟨hi, rfl⟩ := hs.eq
  refine q _ ?_ (S.set hi r)
  simp [L2.wipe]
theorem evgw_two {i j : Nat} (h : i ≠ j) (hs : SetAt Γ i (.dat d) Γ1) (hs2 : SetAt Γ1 j (.dat e) Γ2) : EvGw B (gTup B.K 2 (gCons (gName i) (gCons (gName j) gNil))) [i, j] Γ (.tup [d, e]) Γ2 := fun σ G H v Q S r q => by
  obtain ⟨hi, rfl⟩ := hs.eq
  obtain ⟨hj, rfl⟩ := hs2.eq
  cases r with
  | tup h1 r1 =>
    cases r1 with
    | cons r1 r2 =>
      cases r2 with
      | cons r2 r3 =>
        cases r3
        refine ⟨_, _, rfl, same_t S.same h1, rfl, _, _, rfl, _, _, rfl, rfl, q _ ?_ ((S.set hi r1).set hj r2)⟩
        simp [L2.wipe]
        rw [List.set_comm _ _ h.symm]
        simp
        rw [List.set_comm _ _ h.symm]
        simp
theorem evo_lc {α : Type} (enc : α → D) (xs : List α) (f : α → Bool) (v : α → D) {wi : TI} {g : TG} {vs : List Nat} (hi : EvI B wi Γ (xs.map enc)) (hv : ∀ n ∈ vs, n < Γ.length) (hl : xs.length < 16777216)
    (hs : ∀ x ∈ xs, ∃ Γx, EvGw B g vs (wipeS Γ vs) (enc x) Γx ∧ EvT B tt Γx (f x) ∧ (f x = true → Ev B te Γx (v x))) : EvO B (tLc wi g tt te vs) Γ (.lst ((xs.filter f).map v)) := fun σ G H Q S q => by
  refine hi σ G H _ S fun J G1 H1 fw w Dl hD => ?_
  obtain ⟨Gd, Y, w, hG, hy⟩ := w
  rw [List.length_map] at w
  rw [List.length_map] at hy
  have S1 := S.step fw
  have h0D : B.H0 Dl = none := S1.fr hD
  have gD : G1 Dl = none := S1.same.free hD
  have apD := S1.apart hD
  have fresh : H Dl = none := fw.h.free hD
  refine lc_it w (fun i H' => ∃ G' acc, Same G1 G' ∧ Stt B Γ σ G' H' ∧ G' Dl = none ∧ H' Dl = some (.lst acc) ∧ Rps B.K G' acc (((xs.take i).filter f).map v) ∧ Fw G H G' H') ?_ (fun i H' _ p => ?_) (fun i x H' H2 hlt p y => ?_) (fun H' p => ?_)
  · exact ⟨G1, [], Same.refl _, S1.other h0D gD apD, gD, upd_same, .nil, fw.trans (Fw.newO S1.same hD)⟩
  · obtain ⟨G', acc, s', S', _⟩ := p
    exact hG G' H' s' S'.same
  · obtain ⟨G', acc, s', S', g', hacc, r', fa⟩ := p
    obtain ⟨d, G2, hd', f2, r2⟩ := hy i H' x H2 G' hlt s' S'.same y
    rw [List.getElem?_map, List.getElem?_eq_getElem hlt] at hd'
    have hd2 : enc xs[i] = d := Option.some.inj hd'
    subst hd2
    have ht : xs.take (i + 1) = xs.take i ++ [xs[i]] := List.take_succ_eq_append_getElem hlt
    obtain ⟨Γx, hg, htt, hte⟩ := hs xs[i] (List.getElem_mem hlt)
    refine hg σ G2 H2 x _ ((S'.step f2).wipe vs hv) r2 fun σ2 hw S2 => ⟨hw, ?_⟩
    refine htt σ2 G2 H2 _ S2 fun G3 H3 f3 => ?_
    have f23 := f2.trans f3
    cases hb : f xs[i] with
    | false =>
      show ∃ G' acc, _
      refine ⟨G3, acc, s'.trans f23.g, S'.step f23, f23.gone g' hacc, f23.h _ _ hacc, ?_, fa.trans f23⟩
      rw [ht, List.filter_append, List.filter_cons, hb]
      simpa using r'.mono f23.g
    | true =>
      refine hte hb σ2 G3 H3 _ (S2.step f3) fun y G4 H4 f4 r4 => ?_
      have f24 := f23.trans f4
      have hacc4 := f24.h _ _ hacc
      have g4 := f24.gone g' hacc
      refine ⟨acc, hacc4, ?_, G4, acc ++ [y], s'.trans f24.g, (S'.step f24).other h0D g4 apD, g4, upd_same, ?_, ?_⟩
      · have e1 := r'.length
        have e2 : (((xs.take i).filter f).map v).length ≤ xs.length := by
          rw [List.length_map]
          exact Nat.le_trans (List.length_filter_le _ _) (by rw [List.length_take]; omega)
        exact line_lt (by omega)
      · rw [ht, List.filter_append, List.map_append, List.filter_cons, hb]
        exact (r'.mono f24.g).append (.cons r4 .nil)
      · have fb := fa.trans f24
        refine ⟨fb.g, fun b o e => ?_, fun b o e => ?_, fb.n⟩
        · rw [upd_ne (ne_of_none e fresh)]; exact fb.h b o e
        · rw [upd_ne (ne_of_none e g4)]; exact fb.e b o e
  · obtain ⟨G', acc, s', S', g', hacc, r', fa⟩ := p
    rw [List.take_length] at r'
    exact q Dl (.lst acc) G' H' fa g' fresh hacc ⟨acc, rfl, r'⟩
/-- without a test -/
theorem evo_map {α : Type} (enc : α → D) (xs : List α) (v : α → D) {wi : TI} {g : TG} {vs : List Nat} (hi : EvI B wi Γ (xs.map enc)) (hv : ∀ n ∈ vs, n < Γ.length) (hl : xs.length < 16777216)
    (hs : ∀ x ∈ xs, ∃ Γx, EvGw B g vs (wipeS Γ vs) (enc x) Γx ∧ Ev B te Γx (v x)) : EvO B (tLc wi g tYes te vs) Γ (.lst (xs.map v)) := by
  have := evo_lc (tt := tYes) (te := te) enc xs (fun _ => true) v hi hv hl fun x hx => by
    obtain ⟨Γx, h1, h2⟩ := hs x hx
    exact ⟨Γx, h1, evt_yes, fun _ => h2⟩
  rw [List.filter_eq_self.mpr (fun _ _ => rfl)] at this
  exact this
end
end Z

/-! Z6: enumerate of a text or a tuple; exceptions of the program's own. -/
namespace PySem
theorem meets_enumerate_newB1 {v : Value} {o : Obj} {H : Heap → Prop} (B : Begins v o H) :
    Meets (Builtin.«enumerate.__new__» ⟨[.type "enumerate", v], []⟩) (fun _ R s => H s.heap ∧
      R (.ok (.ret (.ref (s.heap.push o).objs.size))) { s with heap := (s.heap.push o).push { cls := .type "enumerate", data := .fields #[.none, .bool false, .ref s.heap.objs.size, rawInt 0, .none, .none] } }) :=
  .of_wp fun prog w A R s h => by
    obtain ⟨hp, g, d, tk, os⟩ := s; obtain ⟨h1, h⟩ := h
    have hsub := sub_enumerate
    have q1 : ∀ {A' : Around} {E : Value → Shared → Prop} {Q : Value → Shared → Prop}, Q (.ref hp.objs.size) ⟨hp.push o, g, d, tk, os⟩ → wpAny (model prog w) A' (pyIter v) Q E ⟨hp, g, d, tk, os⟩ :=
      fun q => B.iter prog w _ _ ⟨hp, g, d, tk, os⟩ _ h1 q
    wp_walk using q1
    refine wpAny_stack_any fun st => wpAny_pure ?_
    split
    · rename_i c _ _ _ _ _
      cases (c == Value.type "enumerate")
      · wp_walk using q1
        exact ⟨_, rfl, h⟩
      · wp_walk using q1
        exact ⟨_, rfl, h⟩
    · wp_walk using q1
      exact ⟨_, rfl, h⟩
theorem enum_begins1 {prog : Program} {w : World} {A : Around} {E : Value → Shared → Prop} {s : Shared} {v : Value} {o : Obj} {H : Heap → Prop} {Q : Value → Shared → Prop} (B : Begins v o H) (h1 : H s.heap)
    (h : ∀ h', IsEnum h' (s.heap.objs.size + 1) s.heap.objs.size 0 .none → h'.get? s.heap.objs.size = some o → h'.objs.size = s.heap.objs.size + 2 →
      (∀ b o, s.heap.get? b = some o → h'.get? b = some o) → Q (.ref (s.heap.objs.size + 1)) { s with heap := h' }) :
    wpAny (model prog w) A (call (.type "enumerate") [v]) Q E s := by
  refine callType_new F.called_enumerate (by decide) (F.typeCall_enumerate_1 _) (F.newCall_enumerate_1 _) (fun obj => F.args_object_init_2 obj _) F.entry_enumerate_new
    (meets_enumerate_newB1 B) ⟨h1, ?_⟩
  have hz : (s.heap.push o).objs.size = s.heap.objs.size + 1 := Heap.size_push ..
  show _ ∧ _
  rw [hz]
  have he : IsEnum ((s.heap.push o).push { cls := .type "enumerate", data := .fields #[.none, .bool false, .ref s.heap.objs.size, rawInt 0, .none, .none] }) (s.heap.objs.size + 1) s.heap.objs.size 0 .none := by
    have := Heap.get?_push_size (s.heap.push o) (o := { cls := .type "enumerate", data := .fields #[.none, .bool false, .ref s.heap.objs.size, rawInt 0, .none, .none] }) rfl
    rw [hz] at this; exact this
  refine ⟨⟨_, he, rfl⟩, h _ he (Heap.get?_push_of_some _ (Heap.get?_push_size _ B.free)) (by rw [Heap.size_push, hz]) fun b o x => Heap.get?_push_of_some _ (Heap.get?_push_of_some _ x)⟩
end PySem
namespace Z
open PySem PySem.Spec PyProof.Rows L2

/-- one turn of an enumerate, by what its inner iterator draws -/
theorem enum_turn {X : Cx} {pins : List (Addr × Obj)} {s : Shared} {σ : L2.St} {H : Hp} {E : Value → Shared → Prop} {e it : Addr} {fp : List Addr} {n i : Nat} {Pr : Nat → Value → Prop} {St : Nat → Heap → Prop} {old : Value} {elts : List Expr} {kk : Nat} {tpos : Pos}
    {Q : V → Hp → Prop} {R : Heap → Prop}
    (I : Inv X pins σ H s) (hf : ∀ b ∈ [e, it], FpOk X pins H b) (D : Draws X.prog X.w X.A.in1 it fp n Pr St) (he : IsEnum s.heap e it ((i : Nat) : Int) old) (hst : St i s.heap) (hlt : i < n) (hne : e ≠ it) (hef : e ∉ fp)
    (hP : ∀ u, Pr i u → ∃ x, RelV x u ∧ Q (.ref s.heap.objs.size) (upd H s.heap.objs.size (.tup [.int (i : Nat), x])))
    (hR : ∀ h', (∃ old, IsEnum h' e it (((i + 1 : Nat)) : Int) old) → St (i + 1) h' → R h') :
    wpAny (model X.prog X.w) X.A (pyNext (.ref e)) (fun r s1 => ∃ u, r = some u ∧
      wpAny (model X.prog X.w) X.A (letOwnedTupleGo (.Tuple elts kk tpos) (.ref e) u) (fun _ s2 => ∃ x H', Inv X pins σ H' s2 ∧ RelV x u ∧ Q x H' ∧ R s2.heap ∧ ∀ b ∈ [e, it], H' b = none) E s1) E s := by
  have hel : e < s.heap.objs.size := Heap.lt_size he
  have hil : it < s.heap.objs.size := by obtain ⟨o, q⟩ := D.live _ _ hst; exact Heap.lt_size q
  refine wpAny_pyNext_enum_itemD D he hst hlt hne hef fun u h' tk hPu ho hit' hT hsz hk => ?_
  obtain ⟨x, ru, q⟩ := hP u hPu
  refine ⟨_, rfl, wpAny_letOwnedTupleGo_enum (s := { s with heap := h', toks := tk + 1 }) ho fun h'' he' sb => ?_⟩
  have hT2 : h''.get? s.heap.objs.size = some { cls := .type "tuple", data := .seq #[.int i tk, u] } := (sb.2 _ (Nat.ne_of_gt hel)).trans hT
  have new : ObjOk X.prog X.w (upd H s.heap.objs.size (.tup [.int (i : Nat), x])) h'' s.heap.objs.size (.tup [.int (i : Nat), x]) :=
    ⟨by show 2 ≤ sizeLine; decide, [.int i tk, u], .cons ⟨_, rfl⟩ (.cons ru .nil), ⟨_, hT2, rfl, _, rfl⟩⟩
  have I1 : Inv X pins σ (upd H s.heap.objs.size (.tup [.int (i : Nat), x])) { s with heap := h'', toks := tk + 1 } :=
    I.turnedNew (ch := [e, it]) (fun b ob hb q => (sb.2 b (fun z => hb (by simp [z]))).trans (hk b ob (fun z => hb (by simp [z])) (fun z => hb (by simp [z])) q)) hf (Nat.le_refl _) new
  refine ⟨.ref s.heap.objs.size, _, I1, rfl, q, hR h'' ⟨u, ?_⟩ (D.frame _ _ _ hit' fun b hb o y => (sb.2 b fun z => hef (z ▸ hb)).trans y), fun b hb => ?_⟩
  · have e1 : ((i + 1 : Nat) : Int) = (i : Int) + 1 := by omega
    rw [e1]; exact he'
  · have hb' : b < s.heap.objs.size := by
      have e' : b = e ∨ b = it := by simpa using hb
      rcases e' with z | z
      · rw [z]; exact hel
      · rw [z]; exact hil
    rw [upd_ne (Nat.ne_of_lt hb')]
    exact (hf b hb).1

/-! ### a text -/
def Ites (z : Str) : It :=
  ⟨fun i _ => i < z.cps.size, fun i H v H' => ∃ T c, v = .ref T ∧ H T = none ∧ H' = upd H T (.tup [.int (i : Nat), .str ⟨#[c]⟩]) ∧ z.cps[i]? = some c, fun i _ => z.cps.size ≤ i⟩
theorem draws_str {prog : Program} {w : World} {A : Around} (hh : A.handled = none) (it : Addr) (x : Str) (t : Tok) :
    Draws prog w A it [it] x.cps.size (fun i v => ∃ c u, x.cps[i]? = some c ∧ v = .str ⟨#[c]⟩ u) (fun i h => h.IsStrIter it (strIterType x) x t i) := by
  unfold strIterType
  cases x.cps.all (· < 128)
  · exact Draws.strWide hh it x t
  · exact Draws.strAscii hh it x t
theorem turn_enumS {P : Program} {w : World} {K : PySem.W.Frag} {elts : List Expr} {kk : Nat} {tpos : Pos} (z : Str) (t : Tok) (e it : Addr) :
    Turn P w K (.Tuple elts kk tpos) (Ites z) [e, it] e (fun i h => (∃ old, IsEnum h e it ((i : Nat) : Int) old) ∧ h.IsStrIter it (strIterType z) z t i ∧ e ≠ it ∧ i ≤ z.cps.size) where
  mem := by simp
  obj := fun i h st b hb => by
    obtain ⟨⟨old, he⟩, ⟨o, ho, hc, hd⟩, _⟩ := st
    have e' : b = e ∨ b = it := by simpa using hb
    rcases e' with z | z
    · rw [z]; exact ⟨_, he, fun v q => nomatch q⟩
    · rw [z]; exact ⟨o, ho, fun v q => by rw [hd] at q; cases q⟩
  keep := fun i h h' st k => let ⟨⟨old, he⟩, ⟨o, ho, r⟩, hne⟩ := st; ⟨⟨old, k e (by simp) _ he⟩, ⟨o, k it (by simp) o ho, r⟩, hne⟩
  item := by
    intro X hP hw hK hc i pins s σ H E I hf st hg
    subst hP hw hK
    obtain ⟨⟨old, he⟩, hit, hne, _⟩ := st
    refine enum_turn (Q := (Ites z).yld i H) (R := fun h => (∃ old, IsEnum h e it (((i + 1 : Nat)) : Int) old) ∧ h.IsStrIter it (strIterType z) z t (i + 1) ∧ e ≠ it ∧ i + 1 ≤ z.cps.size) I hf (draws_str (A := X.A.in1) (I.ok.hd hc) it z t) he hit hg hne (by simp [hne]) (fun u hu => ?_) (fun h' h1 h2 => ⟨h1, h2, hne, hg⟩)
    obtain ⟨c, tk, hcx, rfl⟩ := hu
    exact ⟨.str ⟨#[c]⟩, ⟨_, rfl⟩, _, c, rfl, I.hok.fresh (Nat.le_refl _), rfl, hcx⟩
  done := by
    intro X hP hw hK hc i pins s σ H E I hf st hg
    subst hP hw hK
    obtain ⟨⟨old, he⟩, hit, hne, hi⟩ := st
    obtain ⟨f0, f1, f2, f3, f4, f5⟩ := hf it (by simp)
    have hn : i = z.cps.size := Nat.le_antisymm hi hg
    subst hn
    exact wpAny_pyNext_enum_endD (draws_str (A := X.A.in1) (I.ok.hd hc) it z t) he hit fun h' eb => ⟨rfl, I.turned (t' := s.toks) (fun b o hb q => eb b o hb q) f0 f1 f3 f4 f5⟩
  self := fun A i s Q E st h => let ⟨⟨_, he⟩, _⟩ := st; wpAny_pyIter_enum he h

/-! ### a tuple -/
def Itet (K : PySem.W.Frag) (a : Addr) : It :=
  ⟨fun i H => ∃ (xs : List V) (x : V), SqT K H a xs ∧ xs[i]? = some x, fun i H v H' => ∃ T x, v = .ref T ∧ H T = none ∧ H' = upd H T (.tup [.int (i : Nat), x]) ∧ ∀ xs, SqT K H a xs → xs[i]? = some x, fun i H => ∃ xs : List V, SqT K H a xs ∧ xs.length = i⟩
theorem apart_of {h : Heap} {a b : Addr} {o u : Obj} (h1 : h.get? a = some o) (h2 : h.get? b = some u) (hc : o.cls ≠ u.cls) : a ≠ b := fun z => by
  subst z; rw [h1] at h2; cases h2; exact hc rfl
theorem turn_enumT {P : Program} {w : World} {K : PySem.W.Frag} {elts : List Expr} {kk : Nat} {tpos : Pos} (a e it : Addr) :
    Turn P w K (.Tuple elts kk tpos) (Itet K a) [e, it] e (fun i h => (∃ old, IsEnum h e it ((i : Nat) : Int) old) ∧ h.IsTupleIter it a i ∧ e ≠ it) where
  mem := by simp
  obj := fun i h st b hb => by
    obtain ⟨⟨old, he⟩, ⟨o, ho, hc, hd⟩, _⟩ := st
    have e' : b = e ∨ b = it := by simpa using hb
    rcases e' with z | z
    · rw [z]; exact ⟨_, he, fun v q => nomatch q⟩
    · rw [z]; exact ⟨o, ho, fun v q => by rw [hd] at q; cases q⟩
  keep := fun i h h' st k => let ⟨⟨old, he⟩, hi, hne⟩ := st; ⟨⟨old, k e (by simp) _ he⟩, hi.at fun o q => k it (by simp) o q, hne⟩
  item := by
    intro X hP hw hK hc i pins s σ H E I hf st hg
    subst hP hw hK
    obtain ⟨⟨old, he⟩, hit, hne⟩ := st
    obtain ⟨xs, x, hq, hx⟩ := hg
    obtain ⟨its, rv, p, hz⟩ := I.tuple hq
    obtain ⟨u0, hu0, ru0⟩ := rv.get hx
    obtain ⟨ot, hot, hct, n, hdt⟩ := id p
    obtain ⟨oi, hoi, hci, hdi⟩ := id hit
    have nae : a ≠ e := apart_of hot he (by rw [hct]; show Value.type "tuple" ≠ Value.type "enumerate"; decide)
    have nai : a ≠ it := apart_of hot hoi (by rw [hct, hci]; decide)
    have hlt : i < its.toArray.size := by
      have := (List.getElem?_eq_some_iff.mp hu0).1
      simpa using this
    refine enum_turn (Q := (Itet X.K a).yld i H) (R := fun h => (∃ old, IsEnum h e it (((i + 1 : Nat)) : Int) old) ∧ h.IsTupleIter it a (i + 1) ∧ e ≠ it) I hf (Draws.tuple (A := X.A.in1) (I.ok.hd hc) it a nai its.toArray) he ⟨hit, p⟩ hlt hne (by simp [hne, Ne.symm nae]) (fun u hu => ?_) (fun h' h1 h2 => ⟨h1, h2.1, hne⟩)
    have eu : u0 = u := by
      have hu' : its[i]? = some u := by simpa using hu
      rw [hu0] at hu'
      exact Option.some.inj hu'
    subst eu
    exact ⟨x, ru0, _, x, rfl, I.hok.fresh (Nat.le_refl _), rfl, fun ys hy => by rw [I.tuple_inj hy hq]; exact hx⟩
  done := by
    intro X hP hw hK hc i pins s σ H E I hf st hg
    subst hP hw hK
    obtain ⟨⟨old, he⟩, hit, hne⟩ := st
    obtain ⟨xs, hq, hx⟩ := hg
    obtain ⟨its, rv, p, hz⟩ := I.tuple hq
    obtain ⟨ot, hot, hct, n, hdt⟩ := id p
    obtain ⟨oi, hoi, hci, hdi⟩ := id hit
    have nai : a ≠ it := apart_of hot hoi (by rw [hct, hci]; decide)
    obtain ⟨f0, f1, f2, f3, f4, f5⟩ := hf it (by simp)
    have hn : i = its.toArray.size := by rw [List.size_toArray, ← rv.length]; exact hx.symm
    refine wpAny_pyNext_enum_endD (Draws.tuple (A := X.A.in1) (I.ok.hd hc) it a nai its.toArray) he ⟨by rw [← hn]; exact hit, p⟩ fun h' eb => ⟨rfl, I.turned (t' := s.toks) (fun b o hb q => eb b o hb q) f0 f1 f3 f4 f5⟩
  self := fun A i s Q E st h => let ⟨⟨_, he⟩, _⟩ := st; wpAny_pyIter_enum he h
def iEnumZ (K : PySem.W.Frag) (ta : TA) : TI := fun σ H R => ta σ H fun vs H1 => (∃ a xs, vs = [.ref a] ∧ SqL K H1 a xs ∧ R (Ite K a) H1) ∨ (∃ a xs, vs = [.ref a] ∧ SqT K H1 a xs ∧ R (Itet K a) H1) ∨ ∃ z, vs = [.str z] ∧ R (Ites z) H1
theorem pi_enumZ {X : Cx} {e : Expr} {ta : TA} {p pos tpos : Pos} {elts : List Expr} {kk : Nat} (hg : Gl X "enumerate") (hm : X.mg "enumerate" = none) (ha : PA X [e] ta) (hs : starEach [e] X.env = [(false, eval e X.env)] := by rfl) :
    PI X (.Tuple elts kk tpos) (.Call (.Name "enumerate" p) [e] [] pos) (iEnumZ X.K ta) := by
  refine ⟨fun pins s σ H R I h => ?_⟩
  refine Call_ (ld_blt I hg hm boot_enumerate (PyProof.Rows.callWith_type1 (thn (ha.run pos pins s σ H _ I h) fun us s1 ⟨vs, H1, I1, r1, q1⟩ => ?_) hs rfl))
  have fp : ∀ b ∈ [s1.heap.objs.size + 1, s1.heap.objs.size], FpOk X pins H1 b := fun b hb => by
    have e' : b = s1.heap.objs.size + 1 ∨ b = s1.heap.objs.size := by simpa using hb
    have hle : s1.heap.objs.size ≤ b := by
      rcases e' with z | z
      · rw [z]; exact Nat.le_add_right _ _
      · rw [z]; exact Nat.le_refl _
    exact I1.fpOk hle (I1.hok.fresh hle)
  rcases q1 with ⟨a, xs, ex, hq, q⟩ | ⟨a, xs, ex, hq, q⟩ | ⟨z, ex, q⟩
  · subst ex
    cases r1 with
    | cons r rr =>
      cases rr
      cases r
      obtain ⟨its, rv, p', hz⟩ := I1.list hq
      refine call_enumerate_list p'.isList fun h' he hit hsz hk => wpAny_pyIter_enum he ?_
      have I2 : Inv X pins σ H1 { s1 with heap := h' } := I1.kept (t' := s1.toks) hk
      exact ⟨s1.heap.objs.size + 1, [s1.heap.objs.size + 1, s1.heap.objs.size], _, _, H1, rfl, I2, turn_enum a (s1.heap.objs.size + 1) s1.heap.objs.size, ⟨⟨.none, he⟩, hit, Nat.succ_ne_self _⟩, fp, q⟩
  · subst ex
    cases r1 with
    | cons r rr =>
      cases rr
      cases r
      obtain ⟨its, rv, p', hz⟩ := I1.tuple hq
      refine enum_begins1 (begins_tuple a its.toArray) p' fun h' he hit hsz hk => wpAny_pyIter_enum he ?_
      have I2 : Inv X pins σ H1 { s1 with heap := h' } := I1.kept (t' := s1.toks) hk
      exact ⟨s1.heap.objs.size + 1, [s1.heap.objs.size + 1, s1.heap.objs.size], _, _, H1, rfl, I2, turn_enumT a (s1.heap.objs.size + 1) s1.heap.objs.size, ⟨⟨.none, he⟩, ⟨_, hit, rfl, rfl⟩, Nat.succ_ne_self _⟩, fp, q⟩
  · subst ex
    cases r1 with
    | cons r rr =>
      cases rr
      obtain ⟨t, rfl⟩ := r
      refine enum_begins1 (begins_text z t) trivial fun h' he hit hsz hk => wpAny_pyIter_enum he ?_
      have I2 : Inv X pins σ H1 { s1 with heap := h' } := I1.kept (t' := s1.toks) hk
      exact ⟨s1.heap.objs.size + 1, [s1.heap.objs.size + 1, s1.heap.objs.size], _, _, H1, rfl, I2, turn_enumS z t (s1.heap.objs.size + 1) s1.heap.objs.size, ⟨⟨.none, he⟩, ⟨_, hit, rfl, rfl⟩, Nat.succ_ne_self _, Nat.zero_le _⟩, fp, q⟩

/-! ### the walks -/
theorem zipIdx_get {α : Type} (f : Nat → α → D) (xs : List α) (i : Nat) : ((xs.zipIdx).map fun p => f p.2 p.1)[i]? = (xs[i]?).map (f i) := by
  rw [List.getElem?_map, List.getElem?_zipIdx]
  cases xs[i]? <;> simp
def enumD (ds : List D) : List D := ds.zipIdx.map fun p => .tup [.int (p.2 : Nat), p.1]
theorem enumD_len (ds : List D) : (enumD ds).length = ds.length := by simp [enumD]
theorem enumD_get (ds : List D) (i : Nat) : (enumD ds)[i]? = (ds[i]?).map fun d => .tup [.int (i : Nat), d] := zipIdx_get (fun i d => .tup [.int (i : Nat), d]) ds i
section
variable {B : Bx} {Γ : List Sl} {aa : TA} {ds : List D}
theorem pair_laid {K : PySem.W.Frag} {G H : Hp} {T : Addr} {x : V} {d : D} {i : Nat} (s : Same G H) (n : H T = none) (r : Rp K G x d) : ∃ G', Fw G H G' (upd H T (.tup [.int (i : Nat), x])) ∧ Rp K G' (.ref T) (.tup [.int (i : Nat), d]) :=
  ⟨_, Fw.new s n, .tup (.inl (.inl upd_same)) (.cons (.int _) (.cons (r.mono (Fw.new (o := .tup [.int (i : Nat), x]) s n).g) .nil))⟩
theorem evi_enumL (h : EvA B aa Γ [.lst ds]) : EvI B (iEnumZ B.K aa) Γ (enumD ds) := fun σ G H R S q =>
  h σ G H _ S fun vs G1 H1 f r => by
    cases r with
    | cons r1 r2 =>
      cases r2
      cases r1 with
      | lst h1 r1 =>
        rename_i a xs
        refine .inl ⟨_, _, rfl, same_l f.e h1, q _ G1 H1 f ⟨_, _, by rw [enumD_len, ← r1.length]; exact walk_enum, fun G H s1 s2 => same_l (s1.trans s2) h1, fun i H x H' G hi s1 s2 y => ?_⟩⟩
        obtain ⟨T, u, v, rfl, hT, rfl, hx, hy⟩ := y
        cases hx
        obtain ⟨d, h2, h3⟩ := r1.get' hy
        obtain ⟨G', f', r'⟩ := pair_laid (i := i) s2 hT (h3.mono s1)
        exact ⟨_, G', by rw [enumD_get, h2]; rfl, f', r'⟩
theorem walk_enumT {K : PySem.W.Frag} {a : Addr} {xs : List V} : Walk (Itet K a) xs.length (fun H => SqT K H a xs) (YPair (fun i => some (.int (i : Nat))) (fun i => xs[i]?)) := by
  refine ⟨fun i _ hi q => ⟨xs, xs[i], q, by simp [hi]⟩, fun _ q => ⟨xs, q, rfl⟩, fun i H v H' _ q y => ?_⟩
  obtain ⟨T, x, h1, h2, h3, h4⟩ := y
  exact ⟨T, .int (i : Nat), x, h1, h2, h3, rfl, h4 xs q⟩
theorem evi_enumU (h : EvA B aa Γ [.tup ds]) : EvI B (iEnumZ B.K aa) Γ (enumD ds) := fun σ G H R S q =>
  h σ G H _ S fun vs G1 H1 f r => by
    cases r with
    | cons r1 r2 =>
      cases r2
      cases r1 with
      | tup h1 r1 =>
        refine .inr (.inl ⟨_, _, rfl, same_t f.e h1, q _ G1 H1 f ⟨_, _, by rw [enumD_len, ← r1.length]; exact walk_enumT, fun G H s1 s2 => same_t (s1.trans s2) h1, fun i H x H' G hi s1 s2 y => ?_⟩⟩)
        obtain ⟨T, u, v, rfl, hT, rfl, hx, hy⟩ := y
        cases hx
        obtain ⟨d, h2, h3⟩ := r1.get' hy
        obtain ⟨G', f', r'⟩ := pair_laid (i := i) s2 hT (h3.mono s1)
        exact ⟨_, G', by rw [enumD_get, h2]; rfl, f', r'⟩
theorem walk_enumS {z : Str} : Walk (Ites z) z.cps.size (fun _ => True) (fun i H v H' => ∃ T c, v = .ref T ∧ H T = none ∧ H' = upd H T (.tup [.int (i : Nat), .str ⟨#[c]⟩]) ∧ z.cps[i]? = some c) :=
  ⟨fun _ _ hi _ => hi, fun _ _ => Nat.le_refl _, fun _ _ _ _ _ _ y => y⟩
theorem evi_enumS {a : List Nat} (h : EvA B aa Γ [.str (tx a)]) : EvI B (iEnumZ B.K aa) Γ (a.zipIdx.map fun p => .tup [.int (p.2 : Nat), .str (tx [p.1])]) := fun σ G H R S q =>
  h σ G H _ S fun vs G1 H1 f r => by
    cases r with
    | cons r1 r2 =>
      cases r2
      cases r1
      have hz : (tx a).cps.size = a.length := by simp [tx]
      refine .inr (.inr ⟨_, rfl, q _ G1 H1 f ⟨_, _, by rw [List.length_map, List.length_zipIdx, ← hz]; exact walk_enumS, fun _ _ _ _ => trivial, fun i H x H' G hi s1 s2 y => ?_⟩⟩)
      obtain ⟨T, c, rfl, hT, rfl, hc⟩ := y
      have hc' : a[i]? = some c := by simpa [tx] using hc
      obtain ⟨G', f', r'⟩ := pair_laid (i := i) s2 hT (Rp.str (K := B.K) (G := G) (tx [c]))
      refine ⟨_, G', ?_, f', r'⟩
      rw [zipIdx_get (fun i c => .tup [.int (i : Nat), .str (tx [c])]) a i, hc']
      rfl
end
end Z

/-! Z7: exceptions of the program's own; isinstance. -/
namespace Z
open PySem PySem.Spec PyProof.Rows L2

/-! ### __init__ that keeps its arguments -/
def spX1 (C : Addr) (f : Str) : Sp := fun vs H Q _ => ∃ (a : Addr) (y : V), vs = [.ref a, y] ∧ H a = some (exo a C none) ∧
  ∀ dx, H dx = none → dx ≠ a → Q .non (upd (upd H dx (exd dx [(f, y)])) a (exo a C (some dx)))
def spX2 (C : Addr) (f g : Str) : Sp := fun vs H Q _ => ∃ (a : Addr) (y z : V), vs = [.ref a, y, z] ∧ H a = some (exo a C none) ∧
  ∀ dx, H dx = none → dx ≠ a → Q .non (upd (upd (upd H dx (exd dx [(f, y)])) a (exo a C (some dx))) dx (exd dx [(g, z), (f, y)]))
theorem exo_exd {a C dx : Addr} {d : Option Addr} {fs : List (Str × V)} (H : Hp) (n : dx ≠ a) : upd (upd H dx (exd dx fs)) a (exo a C d) dx = some (exd dx fs) := by
  rw [upd_ne n, upd_same]
section
variable {B : Bx} {W : WX} {Γ Γ' : List Sl} {P : Po} {aa : TA} {te : TE} {d e : D} {C : Addr} {f g : Str}
theorem del_heap {H1 : Hp} {a dx : Addr} {o1 o2 o3 o4 : HO} (h : H1 a = none) (n : dx ≠ a) : upd (del (upd (upd (upd H1 a o1) dx o2) a o3) a) dx o4 = upd H1 dx o4 := by
  funext b
  by_cases e1 : b = dx
  · subst e1; rw [upd_same, upd_same]
  · rw [upd_ne e1, upd_ne e1]
    by_cases e2 : b = a
    · subst e2; rw [del_same, h]
    · rw [del_ne e2, upd_ne e2, upd_ne e1, upd_ne e2]
theorem del_heap2 {H1 : Hp} {a dx : Addr} {o1 o2 o3 o4 o5 : HO} (h : H1 a = none) (n : dx ≠ a) : upd (del (upd (upd (upd (upd H1 a o1) dx o2) a o3) dx o5) a) dx o4 = upd H1 dx o4 := by
  funext b
  by_cases e1 : b = dx
  · subst e1; rw [upd_same, upd_same]
  · rw [upd_ne e1, upd_ne e1]
    by_cases e2 : b = a
    · subst e2; rw [del_same, h]
    · rw [del_ne e2, upd_ne e1, upd_ne e2, upd_ne e1, upd_ne e2]
/-- raise C(e) -/
theorem sv_raise1 (ha : EvA B aa Γ [d]) (k : P.xc ⟨C, [(f, d)]⟩ Γ) : Sv B W (fun _ σ H => tMkO C (spX1 C f) [] aa σ H fun cls dd H' => W cls dd σ H') Γ P := fun D σ G H E S =>
  ha σ G H _ S fun vs G1 H1 fw r => by
    cases r with
    | @cons y _ _ _ r1 r2 =>
      cases r2
      refine ⟨by show 1 ≤ 1000; decide, fun a hn => ⟨a, _, rfl, upd_same, fun dx hdx ne => ⟨rfl, dx, _, upd_same, exo_exd _ ne, ?_, ?_⟩⟩⟩
      · rw [upd_ne ne] at hdx; exact hdx
      · rw [upd_ne ne] at hdx
        rw [del_heap hn ne]
        have f2 := fw.trans (Fw.new (o := .xd [(f, y)]) fw.e hdx)
        exact E.xc ⟨C, [(f, d)]⟩ Γ _ _ σ _ _ k f2.g (S.step f2) ⟨rfl, .inr ⟨dx, _, rfl, upd_same, .cons (r1.mono (Fw.new (o := .xd [(f, y)]) fw.e hdx).g) .nil⟩⟩
theorem sv_raise2 (ha : EvA B aa Γ [d, e]) (k : P.xc ⟨C, [(g, e), (f, d)]⟩ Γ) : Sv B W (fun _ σ H => tMkO C (spX2 C f g) [] aa σ H fun cls dd H' => W cls dd σ H') Γ P := fun D σ G H E S =>
  ha σ G H _ S fun vs G1 H1 fw r => by
    cases r with
    | @cons y _ _ _ r1 r2 =>
      cases r2 with
      | @cons z _ _ _ r2 r3 =>
      cases r3
      refine ⟨by show 2 ≤ 1000; decide, fun a hn => ⟨a, _, _, rfl, upd_same, fun dx hdx ne => ⟨rfl, dx, _, ?_, upd_same, ?_, ?_⟩⟩⟩
      · rw [upd_ne (Ne.symm ne), upd_same]
      · rw [upd_ne ne] at hdx; exact hdx
      · rw [upd_ne ne] at hdx
        rw [del_heap2 hn ne]
        have f1 := Fw.new (o := .xd [(g, z), (f, y)]) fw.e hdx
        have f2 := fw.trans f1
        exact E.xc ⟨C, [(g, e), (f, d)]⟩ Γ _ _ σ _ _ k f2.g (S.step f2) ⟨rfl, .inr ⟨dx, _, rfl, upd_same, .cons (r2.mono f1.g) (.cons (r1.mono f1.g) .nil)⟩⟩

/-! ### try: .. except X as n: .. -/
def W0 : WX := fun _ _ _ _ => False
theorem sv_try_as {c : Value} {i : Nat} {tb : WX → TS} {ts : Addr → Value → Option Addr → TS} (hi : i < Γ.length)
    (hb : ∀ W', Sv B W' (tb W') Γ { P with xc := fun x Γx => (PySem.W.exmOne B.K (.ref x.C) c = some true ∧ Γx.length = Γ.length ∧ (∀ a d, Sv B W0 (ts a (.ref x.C) (some d)) (Γx.set i (.dat (.xc a d x.fs))) { P with nx := fun Γ' => Γ'.length = Γ.length ∧ P.nx (Γ'.set i .un), bk := fun Γ' => Γ'.length = Γ.length ∧ P.bk (Γ'.set i .un), ct := fun Γ' => Γ'.length = Γ.length ∧ P.ct (Γ'.set i .un), xc := fun _ _ => False }) ∧ x.fs ≠ [])
      ∨ (PySem.W.exmOne B.K (.ref x.C) c = some false ∧ P.xc x Γx) }) : Sv B W (fun D σ H => tb (wAs B.K c i ts W D) D σ H) Γ P := fun D σ G H E S => by
  refine hb (wAs B.K c i ts W D) D σ G H ⟨E.nx, E.bk, E.ct, E.rt, fun x Γx cls dd σ' G' H' k s S' xo => ?_, E.rm⟩ S
  obtain ⟨rfl, xo⟩ := xo
  rcases k with ⟨hx, hl, hs, hne⟩ | ⟨hx, hk⟩
  · refine ⟨true, hx, fun _ a ha => ?_, fun z => Bool.noConfusion z⟩
    rcases xo with ⟨h0, _⟩ | ⟨dxa, vs, rfl, hd, rf⟩
    · exact absurd h0 hne
    · have hil : i < Γx.length := by rw [hl]; exact hi
      refine hs a dxa _ _ G' H' ⟨fun Γ3 σ3 G3 H3 q s3 S3 => ?_, fun Γ3 σ3 G3 H3 q s3 S3 => ?_, fun Γ3 σ3 G3 H3 q s3 S3 => ?_, E.rt, fun _ _ _ _ _ _ _ z => z.elim, E.rm⟩ (S'.set hil (.xc hd rf))
      · exact E.nx _ _ G3 H3 q.2 (s.trans s3) (S3.forget (by rw [q.1]; exact hi))
      · exact E.bk _ _ G3 H3 q.2 (s.trans s3) (S3.forget (by rw [q.1]; exact hi))
      · exact E.ct _ _ G3 H3 q.2 (s.trans s3) (S3.forget (by rw [q.1]; exact hi))
  · exact ⟨false, hx, (fun z => Bool.noConfusion z), fun _ => E.xc x Γx _ dd σ' G' H' hk s S' ⟨rfl, xo⟩⟩
/-- try: .. except X: .. -/
theorem sv_try_only {c : Value} {tb : WX → TS} {ts : Addr → Value → Option Addr → TS}
    (hb : ∀ W', Sv B W' (tb W') Γ { P with xc := fun x Γx => (PySem.W.exmOne B.K (.ref x.C) c = some true ∧ (∀ a dd, Sv B W0 (ts a (.ref x.C) dd) Γx { P with xc := fun _ _ => False }))
      ∨ (PySem.W.exmOne B.K (.ref x.C) c = some false ∧ P.xc x Γx) }) : Sv B W (fun D σ H => tb (wOnly B.K c ts W D) D σ H) Γ P := fun D σ G H E S => by
  refine hb (wOnly B.K c ts W D) D σ G H ⟨E.nx, E.bk, E.ct, E.rt, fun x Γx cls dd σ' G' H' k s S' xo => ?_, E.rm⟩ S
  obtain ⟨rfl, xo⟩ := xo
  rcases k with ⟨hx, hs⟩ | ⟨hx, hk⟩
  · refine ⟨true, hx, fun _ a ha => ?_, fun z => Bool.noConfusion z⟩
    exact hs a dd D σ' G' H' ⟨fun Γ3 σ3 G3 H3 q s3 => E.nx _ _ G3 H3 q (s.trans s3), fun Γ3 σ3 G3 H3 q s3 => E.bk _ _ G3 H3 q (s.trans s3), fun Γ3 σ3 G3 H3 q s3 => E.ct _ _ G3 H3 q (s.trans s3), E.rt, fun _ _ _ _ _ _ _ z => z.elim, E.rm⟩ S'
  · exact ⟨false, hx, (fun z => Bool.noConfusion z), fun _ => E.xc x Γx _ dd σ' G' H' hk s S' ⟨rfl, xo⟩⟩
/-- e.f of a caught one -/
theorem ev_xf {a dd : Addr} {fs : List (Str × D)} (h : Ev B te Γ (.xc a dd fs)) (hl : fs.lookup f = some d) : Ev B (tXf a (.ref C) (some dd) C f te) Γ d := fun σ G H Q S q =>
  h σ G H _ S fun v G1 H1 f1 r => by
    cases r with
    | xc h1 r1 =>
      obtain ⟨v, e, r⟩ := r1.lookup hl
      exact ⟨rfl, rfl, dd, _, v, rfl, f1.e _ _ h1, e, q v G1 H1 f1 r⟩
end

/-! ### isinstance -/
section
variable {prog : Program} {w : World} {A : Around} {E : Value → Shared → Prop} {s : Shared} {K : PySem.W.Frag} {x D : Addr} {ox : Obj} {od : Option Obj}
open PySem.W in
/-- the class of a caught exception with a dict of its own -/
theorem xc_class {Q : Option Value → Shared → Prop} (C : ExcC K D) (X : K.In s.heap) (I : InstAt s.heap x ox D od) (h : Q (some (.ref D)) { s with toks := s.toks + 1 }) : wpAny (model prog w) A (getAttr? (.ref x) "__class__") Q E s := by
  have hf : findObj K D od "__class__" = some (.bind (.builtin "getset_descriptor.__get__") (.builtin "object.__class__")) := by
    obtain ⟨cd, hcl, _⟩ := any_some C.hd
    unfold findObj
    rw [hcl, Option.bind_some, C.ha, Option.bind_some]
    simp [C.hn, C.ht]
  obtain ⟨hp, g, d, t, os⟩ := s
  have L0 := I.type (M := model prog w)
  have L1 := looks_findIn (M := model prog w) X C.hg
  have L2 := looks_findIn (M := model prog w) X C.hk
  have L3 := looks_find (M := model prog w) X I hf
  have sub : Looks (model prog w) hp (isInstance (.ref x) (.type "BaseException")) true := L0.andThen (looks_subIn X C.hs)
  have hx0 : (false && onTheHeap (Value.builtin "BaseException.__getattribute__")) = false := rfl
  have hx2 : (Value.builtin "BaseException.__getattribute__" == Value.builtin "object.__getattribute__") = false := by decide +kernel
  have hx1 : (onTheHeap (Value.ref D) && Value.builtin "BaseException.__getattribute__" == Value.builtin "object.__getattribute__") = false := by rw [hx2]; rfl
  unfold getAttr? getAttrBy? getAttrBy
  refine wpAny_bind (wpAny_mkText (wpAny_bind (wpAny_attempt (wpAny_holding (wpAny_bind (L0.at (wpAny_bind (L1.at ?_))))))))
  show wpAny _ _ (if (onTheHeap (Value.ref D) && Value.builtin "BaseException.__getattribute__" == Value.builtin "object.__getattribute__") = true then _ else _) _ _ _
  rw [hx1, if_neg Bool.false_ne_true]
  unfold getAttrByItsOwn hookBefore
  refine wpAny_bind ?_
  rw [if_pos (show onTheHeap (Value.ref D) = true from rfl)]
  refine L2.at ?_
  refine wpAny_bind (wpAny_attempt (wpAny_holding ?_))
  unfold callGetattribute
  rw [hx0, if_neg Bool.false_ne_true]
  unfold boundAndCalled
  rw [PySem.F.excAttr_ValueError.ga.bind (.ref x)]
  refine wpAny_bind (wpAny_pure ?_)
  show wpAny _ _ (call (.builtin "BaseException.__getattribute__") [.ref x, .str "__class__" t]) _ _ _
  refine wpAny_call (codeAny_call_builtin PySem.F.excAttr_ValueError.ga.plain PySem.F.entry_bexc_ga ?_)
  refine @check_slot (model prog w) _ _ ⟨hp, g, d, t + 1, os⟩ "BaseException.__getattribute__" "BaseException" "__getattribute__" (.ref x) [.str "__class__" t] [] _ (by decide +kernel) (by decide +kernel) sub (PySem.F.args_bexc_ga (.ref x) (.str "__class__" t)) ?_
  unfold Builtin.«object.__getattribute__»
  refine wpAny_bind (wpAny_of_eq (a := ((Value.ref x : Value), [Value.str "__class__" t])) (by first | rfl | (simp only [slotArgs]; rfl)) ?_)
  refine wpAny_bind (wpAny_pure (wpAny_bind (L0.at (wpAny_bind (L3.at ?_)))))
  show wpAny _ _ (holding [Value.builtin "object.__class__"] (call (.builtin "getset_descriptor.__get__") [.builtin "object.__class__", .ref x, .ref D]) >>= ret) _ _ _
  refine wpAny_bind (wpAny_holding (wpAny_call (class_get (s := ⟨hp, g, d, t + 1, os⟩) (ox := ox) (od := od) X I C.hm ?_)))
  refine wpAny_pure ?_
  show wpAny _ _ (handedOut (.ref D)) _ _ _
  rw [handedOut_of (v := .ref D) rfl]
  first
    | exact wpAny_pure (wpAny_pure h)
    | exact wpAny_pure h
    | exact wpAny_pure (wpAny_bind (wpAny_pure (wpAny_pure h)))
open PySem.W in
theorem xc_kit (C : ExcC K D) : KitX K (.ref x) (.ref D) (fun h => ∃ ox od, InstAt h x ox D od) where
  ty := fun _ _ _ ⟨_, _, I⟩ => I.type
  it := fun _ _ X _ => by
    obtain ⟨cdD, hcD, _⟩ := any_some C.hd
    unfold clsIn at hcD
    split at hcD
    · rename_i c' d' cd' sl' ho
      intro A' Q' E' s' k q
      unfold isType loadHead
      exact wpAny_bind (wpAny_loadPart (k _ _ (X _ _ ho)) (wpAny_pure q))
    · cases hcD
  ne := fun h tp dd its n sl X htp => by
    obtain ⟨cdD, hcD, _⟩ := any_some C.hd
    refine Bool.eq_false_iff.mpr fun q => ?_
    have e : D = tp := Value.ref.inj (beq_iff_eq.mp q)
    subst e
    unfold clsIn at hcD
    split at hcD
    · rename_i c' d' cd' sl' ho
      have z := (X _ _ ho).symm.trans htp
      cases z
    · cases hcD
  ca := fun X ⟨_, _, I⟩ k => xc_class C X I k
end
/-- isinstance(e, c), e the exception that the suite holds, its dict at dd -/
def rIsX (K : PySem.W.Frag) (D a dd : Addr) : List V → Hp → VK → Prop := fun xs H Q => ∃ (c : V) (cv : Value) (b : Bool) (fs : List (Str × V)), xs = [.ref a, c] ∧ ClsV c cv ∧ H dd = some (.xd fs) ∧ PySem.W.kitOne K (.ref D) cv = some b ∧ Q (.bl b) H
theorem call_isX {X : Cx} {a D dd : Addr} {oe : Obj} {pn : List (Addr × Obj)} (C : ExcC X.K D) (hz : Zc (.ref D) (some dd) oe) (hf : ∃ vs, oe.data = .fields vs) : CallR (X.suite a ((a, oe) :: pn)) (.builtin "isinstance") (rIsX X.K D a dd) := by
  intro pins s σ H xs us Q I r h
  obtain ⟨c, cv, b, fs, rfl, hcv, hd, e, q⟩ := h
  cases r with
  | cons rx rr =>
    cases rr with
    | cons rt rr =>
      cases rr
      cases rx
      have ec := hcv.eq rt
      subst ec
      obtain ⟨hget, _⟩ := I.pin (a, oe) (List.mem_append.mpr (.inl List.mem_cons_self))
      obtain ⟨vs, hv⟩ := hf
      have hxd : ObjOk X.prog X.w H s.heap dd (.xd fs) := I.hok dd _ hd
      obtain ⟨mA, ⟨od, es, ep, hod, _⟩, _⟩ := hxd
      have J : PySem.W.InstAt s.heap a oe D (some od) := by
        obtain ⟨oc, od2, oda, osl⟩ := oe
        obtain ⟨h1, h2⟩ := hz
        dsimp only at h1 h2 hv
        subst h1 h2 hv
        exact ⟨hget, rfl, rfl, hod⟩
      exact PySem.W.kia_one (xc_kit C) I.kIn ⟨_, _, J⟩ e (fun z => (nomatch z)) fun tk => ⟨.bl b, H, I.kept (t' := tk) fun _ _ z => z, rfl, q⟩
section
variable {B : Bx} {Γ : List Sl} {aa : TA} {te : TE} {d e : D} {C : Addr} {p : Bool} {t : Value}
theorem ev_isX {a dd D : Addr} {fs : List (Str × Z.D)} {c : V} {cv : Value} {dc : Z.D} (ha : EvA B aa Γ [.xc a dd fs, dc]) (hc : ∀ G v, Rp B.K G v dc → v = c) (hcv : ClsV c cv) (hk : PySem.W.kitOne B.K (.ref D) cv = some p) : Ev B (tCB (rIsX B.K D a dd) aa) Γ (.bl p) := fun σ G H Q S q =>
  ha σ G H _ S fun vs G1 H1 f r => by
    cases r with
    | cons r1 r2 =>
      cases r2 with
      | cons r2 r3 =>
        cases r3
        have e := hc _ _ r2
        subst e
        cases r1 with
        | xc h1 _ => exact ⟨_, cv, p, _, rfl, hcv, f.e _ _ h1, hk, q _ G1 H1 f (.bl p)⟩
def D.tyv : D → Option Value
  | .non => some (.type "NoneType")
  | .bl _ => some (.type "bool")
  | .int _ => some (.type "int")
  | .str _ => some (.type "str")
  | .lst _ => some (.type "list")
  | .tup _ => some (.type "tuple")
  | .dk _ => some (.type "dict")
  | _ => none
theorem Rp.tyx {K : PySem.W.Frag} {G H : Hp} {v : V} {d : D} {t : Value} (r : Rp K G v d) (s : Same G H) (e : d.tyv = some t) : TyX K H v t := by
  cases r with
  | non => cases e; exact .base .non
  | bl => cases e; exact .base (.bl _)
  | int => cases e; exact .base (.int _)
  | str => cases e; exact .base (.str _)
  | ty => cases e
  | ref => cases e
  | obj => cases e
  | xc => cases e
  | dk h1 _ =>
    cases e
    rcases h1 with h | ⟨o, h⟩
    · exact .base (.dK (s _ _ h))
    · exact .fDict (s _ _ h)
  | lst h1 _ =>
    cases e
    rcases h1 with (h | ⟨o, h⟩) | ⟨o, its, n, hk, hc, _⟩
    · exact .base (.lst (s _ _ h))
    · exact .base (.frz (s _ _ h))
    · exact .kList hk hc
  | tup h1 _ =>
    cases e
    rcases h1 with (h | ⟨o, h⟩) | ⟨o, its, n, hk, hc, _⟩
    · exact .base (.tup (s _ _ h))
    · exact .fTuple (s _ _ h)
    · exact .kTuple hk hc
theorem rc_isi {T : String} (h : d.tyv = some t) (hk : PySem.W.kitOne B.K t (.type T) = some p) : RC B (zIsi B.K) [d, .ty T] (.bl p) := fun xs G H Q s r q => by
  cases r with
  | cons r1 r2 =>
    cases r2 with
    | cons r2 r3 =>
      cases r3; cases r2
      exact ⟨_, _, t, .type T, p, rfl, .ty T, r1.tyx s h, hk, q _ G H (.refl s) (.bl p)⟩
end
end Z

/-! Z8: defs and classes of the text as bundles; the head's facts by tests of one's own. -/
namespace Z
open PySem PySem.Spec PyProof.Rows L2

/-! ### a def with its promise -/
structure Df (P : Program) (w : World) (K : PySem.W.Frag) (mg : Str → Option Value) (base : Heap) (x : Str) (ps : List Str) (k : Nat) (sp : Sp) : Prop where
  ex : ∃ f fd, FnOk P w K mg base (L2.CX P w) k f fd ps sp ∧ mg x = some (.ref f) ∧ PySem.W.keepIn K (.ref f) = true ∧ Binds K fd ps []
section
variable {X : Cx} {W : WX} {x : Str} {ps : List Str} {k : Nat} {sp : Sp} {p pos : Pos} {e : Expr} {es : List Expr} {t : TA}
theorem pe_callZ (D : Df X.prog X.w X.K X.mg X.base x ps k sp) (hr : Room k X.A) (tk : Takes X W) (ha : PA X (e :: es) t) (hg : Gl X x := by rfl) (hdb : (x == ("__debug__" : Str)) = false := by decide)
    (he : starEach (e :: es) X.env = (false, eval e X.env) :: starEach es X.env := by rfl) (hpl : (backTo pos (starEach es X.env)).any (·.1) = false := by rfl) :
    PE X (.Call (.Name x p) (e :: es) [] pos) (tCallS sp (WE W) t) := by
  obtain ⟨f, fd, G, gm, kp, b⟩ := D.ex
  exact pe_callS G hr hg gm kp b (fun σ => passAt tk σ) ha hdb he hpl
/-- where nothing may be let out -/
theorem pe_callN (D : Df X.prog X.w X.K X.mg X.base x ps k sp) (hr : Room k X.A) (ha : PA X (e :: es) t) (hg : Gl X x := by rfl) (hdb : (x == ("__debug__" : Str)) = false := by decide)
    (he : starEach (e :: es) X.env = (false, eval e X.env) :: starEach es X.env := by rfl) (hpl : (backTo pos (starEach es X.env)).any (·.1) = false := by rfl) :
    PE X (.Call (.Name x p) (e :: es) [] pos) (tCall sp [] E0 t) := by
  obtain ⟨f, fd, G, gm, kp, b⟩ := D.ex
  exact pe_call G hr hg gm kp b .nil passL ha hdb he hpl
theorem pe_callN0 (D : Df X.prog X.w X.K X.mg X.base x ps k sp) (hr : Room k X.A) (hg : Gl X x := by rfl) (hdb : (x == ("__debug__" : Str)) = false := by decide) :
    PE X (.Call (.Name x p) [] [] pos) (tCall sp [] E0 tNil) := by
  obtain ⟨f, fd, G, gm, kp, b⟩ := D.ex
  exact pe_call0 G hr hg gm kp b .nil passL hdb
end

/-! ### an own exception class with an __init__ that keeps its arguments -/
structure Dx (P : Program) (w : World) (K : PySem.W.Frag) (mg : Str → Option Value) (base : Heap) (x : Str) (C : Addr) (ps : List Str) (sp : Sp) : Prop where
  oex : OexC K C
  gm : mg x = some (.ref C)
  ex : ∃ fI fd, FnOk P w K mg base (L2.CX P w) 1 fI fd ps sp ∧ PySem.W.findIn K (.ref C) "__init__" = some (some (.ref fI)) ∧ PySem.W.typeIn K (.ref fI) = some (.type "function") ∧ Binds K fd ps []
section
variable {X : Cx} {W : WX} {x : Str} {C : Addr} {ps : List Str} {sp : Sp} {p pos pos2 : Pos} {e : Expr} {es : List Expr} {t : TA}
theorem ps_raiseZ (D : Dx X.prog X.w X.K X.mg X.base x C ps sp) (hc : X.calm = true) (hr : Room 2 X.A) (tk : Takes X W) (ha : PA X (e :: es) t) (hg : Gl X x := by rfl) (hdb : (x == ("__debug__" : Str)) = false := by decide)
    (he : starEach (e :: es) X.env = (false, eval e X.env) :: starEach es X.env := by rfl) (hpl : (backTo pos (starEach es X.env)).any (·.1) = false := by rfl) :
    PS X (.Raise (some (.Call (.Name x p) (e :: es) [] pos)) none pos2) (fun _ σ H => tMkO C sp [] t σ H fun cls d H' => W cls d σ H') := by
  obtain ⟨fI, fd, F1, iC, tI, b⟩ := D.ex
  exact ps_raise hc tk (pmk_oex D.oex iC tI F1 hr b .nil (fun _ _ _ _ _ _ _ h => by obtain ⟨_, _, _, _, _, _, _, _, _, _, _, _, z⟩ := h; exact z.elim) hg D.gm ha hdb he hpl)
end

/-! ### e.f and isinstance(e, c) in an except suite, whatever its class -/
def tXg (K : PySem.W.Frag) (a : Addr) (cls : Value) (d : Option Addr) (f : Str) (te : TE) : TE := fun σ H Q => te σ H fun x H1 => x = .ref a ∧ ∃ (C dd : Addr) (fs : List (Str × V)) (v : V), cls = .ref C ∧ d = some dd ∧ XfC K C ∧ PySem.W.findIn K (.ref C) f = some none ∧ H1 dd = some (.xd fs) ∧ fs.lookup f = some v ∧ Q v H1
theorem pe_xg {X : Cx} {a : Addr} {oe : Obj} {cls : Value} {d : Option Addr} {pn : List (Addr × Obj)} {e : Expr} {te : TE} {pos : Pos} {n : Str}
    (hz : Zc cls d oe) (hf : ∃ vs, oe.data = .fields vs) (he : PE (X.suite a ((a, oe) :: pn)) e te) (hb : attributeBase e n X.env (eval e X.env) = eval e X.env := by rfl) :
    PE (X.suite a ((a, oe) :: pn)) (.Attribute e n pos) (tXg X.K a cls d n te) := by
  refine ⟨fun pins s σ H Q I h => ?_⟩
  refine attr_of hb (thn (he.run pins s σ H _ I h) fun u s1 hh => ?_)
  obtain ⟨x, H1, I1, rx, ex, C, dd, fs, v, ec, ed, T, hno, ea, l, q⟩ := hh
  subst ex
  obtain rfl : u = Value.ref a := rx
  subst ec
  subst ed
  obtain ⟨ha, _⟩ := I1.pin (a, oe) (List.mem_append_left _ List.mem_cons_self)
  obtain ⟨vs, hd⟩ := hf
  have hx : ObjOk X.prog X.w H1 s1.heap dd (.xd fs) := I1.hok dd _ ea
  obtain ⟨mA, hns, hr⟩ := hx
  obtain ⟨od, ho, hl⟩ := lookIn_ns hns
  obtain ⟨u, hu, ru⟩ := RelO.some_of (v := v) (o := mA n) (by rw [← l]; exact hr n)
  have J : PySem.W.InstAt s1.heap a oe C (some od) := ⟨ha, hz.1, by unfold PySem.W.notCls; rw [hd] <;> rfl, by rw [hz.2]; exact ho⟩
  exact HandSPX.exc_get I1.kIn J T.ga T.gg T.exC (PySem.W.findObj_own T.hdC hno rfl (by rw [hl, hu])) (handed_of ru) ⟨v, H1, I1.tok _, ru, q⟩
def rIsG (K : PySem.W.Frag) (a : Addr) (cls : Value) (d : Option Addr) : List V → Hp → VK → Prop := fun xs H Q => ∃ (D dd : Addr), cls = .ref D ∧ d = some dd ∧ ExcC K D ∧ rIsX K D a dd xs H Q
theorem call_isG {X : Cx} {a : Addr} {cls : Value} {d : Option Addr} {oe : Obj} {pn : List (Addr × Obj)} (hz : Zc cls d oe) (hf : ∃ vs, oe.data = .fields vs) : CallR (X.suite a ((a, oe) :: pn)) (.builtin "isinstance") (rIsG X.K a cls d) := by
  intro pins s σ H xs us Q I r h
  obtain ⟨D, dd, rfl, rfl, C, q⟩ := h
  exact call_isX C hz hf pins s σ H xs us Q I r q
section
variable {B : Bx} {Γ : List Sl} {aa : TA} {te : TE} {d e : D} {C : Addr} {f : Str} {p : Bool}
theorem ev_xg {a dd : Addr} {fs : List (Str × D)} (h : Ev B te Γ (.xc a dd fs)) (T : XfC B.K C) (hno : PySem.W.findIn B.K (.ref C) f = some none) (hl : fs.lookup f = some d) : Ev B (tXg B.K a (.ref C) (some dd) f te) Γ d := fun σ G H Q S q =>
  h σ G H _ S fun v G1 H1 f1 r => by
    cases r with
    | xc h1 r1 =>
      obtain ⟨v, e, r⟩ := r1.lookup hl
      exact ⟨rfl, C, dd, _, v, rfl, rfl, T, hno, f1.e _ _ h1, e, q v G1 H1 f1 r⟩
theorem ev_isG {a dd : Addr} {fs : List (Str × D)} {E : Addr} (ha : EvA B aa Γ [.xc a dd fs, .ref E]) (T : ExcC B.K C) (hk : PySem.W.kitOne B.K (.ref C) (.ref E) = some p) : Ev B (tCB (rIsG B.K a (.ref C) (some dd)) aa) Γ (.bl p) := fun σ G H Q S q =>
  ha σ G H _ S fun vs G1 H1 f r => by
    cases r with
    | cons r1 r2 =>
      cases r2 with
      | cons r2 r3 =>
        cases r3
        cases r2
        cases r1 with
        | xc h1 _ => exact ⟨C, dd, rfl, rfl, T, _, .ref E, p, _, rfl, .own E, f.e _ _ h1, hk, q _ G1 H1 f (.bl p)⟩
end

/-! ### tests of the written part -/
def oexB (K : PySem.W.Frag) (C : Addr) : Bool := (match K.lookup C with
  | some ⟨.type t, _, .cls cd, sl⟩ => (match cd.mro, sl.toList with
    | .ref C' :: bm, [_, _, _, _, some (.builtin n), _] => decide (t = "type") && decide (C' = C) && decide (n = "ValueError.__new__") && !cd.hasDel && cd.hasDict && PySem.HandSPX.refsVE bm
    | _, _ => false)
  | _ => false) && (decide (PySem.W.findIn K (.ref C) "__setattr__" = some (some (.builtin "object.__setattr__"))) && (decide (PySem.W.subIn K (.ref C) (.type "BaseException") = some true) && (decide (PySem.W.typeIn K (.ref C) = some (.type "type")) && PySem.W.keepIn K (.ref C))))
theorem oexB_ok {K : PySem.W.Frag} {C : Addr} (h : oexB K C = true) : OexC K C := by
  unfold oexB at h
  rw [Bool.and_eq_true, Bool.and_eq_true, Bool.and_eq_true, Bool.and_eq_true] at h
  obtain ⟨h1, h2, h3, h4, h5⟩ := h
  refine ⟨?_, of_decide_eq_true h2, of_decide_eq_true h3, of_decide_eq_true h4, h5⟩
  split at h1
  · rename_i t dd cd sl ho
    split at h1
    · rename_i C' bm k0 k1 k2 k3 n k5 hm hs
      simp only [Bool.and_eq_true, decide_eq_true_eq, Bool.not_eq_true'] at h1
      obtain ⟨⟨⟨⟨⟨rfl, rfl⟩, rfl⟩, hdel⟩, hdict⟩, hre⟩ := h1
      obtain ⟨nm, bs, mro, ns, qn, hd, sn, sub, ab, col, del⟩ := cd
      dsimp only at hm hdel hdict
      subst hm hdel hdict
      have hsl : sl = #[k0, k1, k2, k3, some (.builtin "ValueError.__new__"), k5] := by
        obtain ⟨l⟩ := sl
        simp only at hs
        rw [hs]
      subst hsl
      exact ⟨nm, qn, ns, bs, bm, sn, sub, ab, col, dd, k0, k1, k2, k3, k5, ho, hre⟩
    · cases h1
  · cases h1
def excCB (K : PySem.W.Frag) (D : Addr) : Bool :=
  decide (PySem.W.findIn K (.ref D) "__getattribute__" = some (some (.builtin "BaseException.__getattribute__"))) && (decide (PySem.W.findIn K (.ref D) "__getattr__" = some none) && (decide (PySem.W.subIn K (.ref D) (.type "BaseException") = some true) && (PySem.W.hasDictIn K D &&
  (decide (PySem.W.findIn K (.ref D) "__class__" = some (some (.builtin "object.__class__"))) && (decide (PySem.W.specialIn K (.builtin "object.__class__") "__get__" = some (some (.builtin "getset_descriptor.__get__"))) && (decide (PySem.W.takesIn K (.builtin "object.__class__") = some true) && decide (PySem.W.mroIn K D (.type "object") = some true)))))))
theorem excCB_ok {K : PySem.W.Frag} {D : Addr} (h : excCB K D = true) : ExcC K D := by
  unfold excCB at h
  simp only [Bool.and_eq_true, decide_eq_true_eq] at h
  obtain ⟨h1, h2, h3, h4, h5, h6, h7, h8⟩ := h
  exact ⟨h1, h2, h3, h4, h5, h6, h7, h8⟩
/-- a class of the text: where it stands, its __init__ -/
def initB (K : PySem.W.Frag) (x : Str) : Bool := decide (PySem.W.findIn K (.ref (He.ga K x)) "__init__" = some (some (.ref (He.ma K (He.ga K x) "__init__")))) && decide (PySem.W.typeIn K (.ref (He.ma K (He.ga K x) "__init__")) = some (.type "function"))
theorem initB_ok {K : PySem.W.Frag} {x : Str} (h : initB K x = true) : PySem.W.findIn K (.ref (He.ga K x)) "__init__" = some (some (.ref (He.ma K (He.ga K x) "__init__"))) ∧ PySem.W.typeIn K (.ref (He.ma K (He.ga K x) "__init__")) = some (.type "function") := by
  unfold initB at h
  simp only [Bool.and_eq_true, decide_eq_true_eq] at h
  exact h
def gloB (K : PySem.W.Frag) (x : Str) : Bool := (He.Fa.glo x).ok K
def freeB (K : PySem.W.Frag) (x : Str) : Bool := (He.Fa.free x).ok K

/-! ### the Hook -/
def obsZ (ts : List (PySem.W.Frag → Bool)) (fn : List He.DefD) (K : PySem.W.Frag) : He.AlD := ((ts.all fun f => f K) && fn.all fun d => d.ok K, fn.map fun d => He.fnW K d.at_)
def SaysZ (ts : List (PySem.W.Frag → Bool)) (fn : List He.DefD) (K : PySem.W.Frag) : Prop := obsZ ts fn K = He.valD fn
def obsZG (n : Nat) (ts : List (PySem.W.Frag → Bool)) (fn : List He.DefD) (g : Addr → Option Obj) : He.AlD := obsZ ts fn (He.frG g (He.asD g n))
def hookZ (n : Nat) (ts : List (PySem.W.Frag → Bool)) (fn : List He.DefD) : PySem.W.Hook where
  α := He.AlD
  obs := fun s => obsZG n ts fn s.heap.get?
  val := fun _ => He.valD fn
  says := fun _ h => ∃ K : PySem.W.Frag, K.In h ∧ SaysZ ts fn K
  of := fun _ _ e => ⟨_, He.frG_in, e⟩
  keeps := fun _ _ _ ⟨K, hK, c⟩ k => ⟨K, PySem.W.Frag.In.keeps hK k, c⟩
theorem obsZG_eq {n : Nat} {ts : List (PySem.W.Frag → Bool)} {fn : List He.DefD} {g : Addr → Option Obj} {s : Shared} (h : ∀ a, g a = s.heap.get? a) : obsZG n ts fn g = (hookZ n ts fn).obs s := by
  have e : g = s.heap.get? := funext h
  rw [e] <;> rfl
section
variable {ts : List (PySem.W.Frag → Bool)} {fn : List He.DefD} {K : PySem.W.Frag}
theorem SaysZ.fact (c : SaysZ ts fn K) (i : Nat) {f : PySem.W.Frag → Bool} (h : ts[i]? = some f := by rfl) : f K = true := by
  have c1 := (He.ba (show ((ts.all fun f => f K) && fn.all fun d => d.ok K) = true from congrArg (fun z : He.AlD => z.1) c)).1
  exact List.all_eq_true.mp c1 f (List.mem_of_getElem? h)
theorem SaysZ.def_ (c : SaysZ ts fn K) (i : Nat) {d : He.DefD} (h : fn[i]? = some d := by rfl) : ∃ fd, FunD K d.name d.qual d.params d.body d.scope (d.dvs K) (d.kws K) (He.fAd K d.at_) fd := by
  have c2 := (He.ba (show ((ts.all fun f => f K) && fn.all fun d => d.ok K) = true from congrArg (fun z : He.AlD => z.1) c)).2
  have e : fn.map (fun d => He.fnW K d.at_) = fn.map He.DefD.val := congrArg (fun z : He.AlD => z.2) c
  have e2 : (fn.map fun d => He.fnW K d.at_)[i]? = (fn.map He.DefD.val)[i]? := by rw [e]
  rw [List.getElem?_map, List.getElem?_map, h] at e2
  exact He.DefD.funD (Option.some.inj e2) (List.all_eq_true.mp c2 d (List.mem_of_getElem? h))
end
/-- the entry: what the promise gives, as slots -/
def ini (N : List Str) (ds : List D) : List Sl := ds.map Sl.dat ++ List.replicate (N.length - ds.length) Sl.un
theorem ini_own (N : List Str) (ds : List D) (i : Nat) (o : Ow) : (ini N ds)[i]? ≠ some (.own o) := fun h => by
  unfold ini at h
  have hm := List.mem_of_getElem? h
  rw [List.mem_append, List.mem_map, List.mem_replicate] at hm
  rcases hm with ⟨d, _, e⟩ | ⟨_, e⟩ <;> cases e
theorem ini_mem (N : List Str) (ds : List D) (i : Nat) (M : Mem) : (ini N ds)[i]? ≠ some (.mem M) := fun h => by
  unfold ini at h
  have hm := List.mem_of_getElem? h
  rw [List.mem_append, List.mem_map, List.mem_replicate] at hm
  rcases hm with ⟨d, _, e⟩ | ⟨_, e⟩ <;> cases e
theorem stt_start {K : PySem.W.Frag} {G H : Hp} {N : List Str} {vs : List V} {ds : List D} (s : Same G H) (r : Rps K G vs ds) : Stt ⟨K, G, H, NoF⟩ (ini N ds) (L2.start N vs) G H := by
  have hl := r.length
  have hno := ini_own N ds
  have hnm := ini_mem N ds
  refine ⟨.refl s, by unfold L2.start ini; simp [hl], fun i t h => ?_, fun i j a h => ?_, fun i o a h => absurd h (hno i o), fun i M a w h => absurd h (hnm i M)⟩
  rotate_left
  · rcases h with ⟨o, h, _⟩ | ⟨M, w, h, _⟩
    · exact absurd h (hno i o)
    · exact absurd h (hnm i M)
  unfold ini at h
  by_cases hi : i < ds.length
  · rw [List.getElem?_append_left (by simpa using hi), List.getElem?_map] at h
    cases e : ds[i]? with
    | none => rw [e] at h; cases h
    | some d =>
      rw [e] at h
      cases h
      obtain ⟨v, h1, h2⟩ := r.get e
      unfold L2.start
      rw [List.getElem?_append_left (by simpa [hl] using hi), List.getElem?_map, h1]
      exact ⟨v, rfl, h2⟩
  · rw [List.getElem?_append_right (by simpa using hi)] at h
    rw [List.getElem?_replicate] at h
    split at h
    · cases h; trivial
    · cases h
/-- the end of a def: from the data's promise to the layer's -/
theorem sv_def {K : PySem.W.Frag} {F : Fn} {N : List Str} {t : TS} {vs : List V} {H : Hp} {Q : VK} {E : XK} (h : spz K F vs H Q E)
    (hb : ∀ G ds R X, F ds R X → Sv ⟨K, G, H, NoF⟩ (fun cls d _ H' => E cls d H') t (ini N ds) { nx := fun _ => R (.dat .non), rt := R, xc := fun x _ => X x }) : t { nx := fun _ H' => Q .non H', rt := Q } (L2.start N vs) H := by
  obtain ⟨G, ds, R, X, s, r, f, q, qe⟩ := h
  refine hb G ds R X f _ (L2.start N vs) G H ⟨fun Γ σ G' H' h _ S => q (.dat .non) _ G' H' h (S.fw.fw fun _ z => z) .non, fun _ _ _ _ z => z.elim, fun _ _ _ _ z => z.elim, fun s v G' H' h f r => q s v G' H' h (f.fw fun _ z => z) r, fun x Γ cls dd σ G' H' h _ S xo => qe x cls dd G' H' h (S.fw.fw fun _ z => z) xo, fun _ _ _ _ _ _ _ _ z => z.elim⟩ (stt_start s r)
/-- an __init__ of one field -/
theorem init1 {K : PySem.W.Frag} {C : Addr} {f : Str} {vs : List V} {H : Hp} {Q : VK} {E : XK} {a b : Str}
    (T : OexC K C) (hno : PySem.W.findIn K (.ref C) f = some none) (h : spX1 C f vs H Q E) : tOst K f (tVar 0) (tVar 1) { nx := fun _ H' => Q .non H', rt := Q } (L2.start [a, b] vs) H := by
  obtain ⟨c, y, rfl, hc, q⟩ := h
  exact ⟨y, rfl, _, rfl, c, C, rfl, T, hno, .inl ⟨hc, fun dx n ne => q dx n ne⟩⟩
theorem init2 {K : PySem.W.Frag} {C : Addr} {f g : Str} {vs : List V} {H : Hp} {Q : VK} {E : XK} {a b c : Str}
    (T : OexC K C) (hno : PySem.W.findIn K (.ref C) f = some none) (hno2 : PySem.W.findIn K (.ref C) g = some none) (h : spX2 C f g vs H Q E) :
    tSeq (tOst K f (tVar 0) (tVar 1)) (tOst K g (tVar 0) (tVar 2)) { nx := fun _ H' => Q .non H', rt := Q } (L2.start [a, b, c] vs) H := by
  obtain ⟨c, y, z, rfl, hc, q⟩ := h
  refine ⟨y, rfl, _, rfl, c, C, rfl, T, hno, .inl ⟨hc, fun dx n ne => ?_⟩⟩
  refine ⟨z, rfl, _, rfl, c, C, rfl, T, hno2, .inr ⟨dx, [(f, y)], upd_same, exo_exd _ ne, by show 1 ≤ 900; decide, q dx n ne⟩⟩
theorem spX1_len {C : Addr} {f : Str} (vs : List V) (H : Hp) (Q : VK) (E : XK) (h : spX1 C f vs H Q E) : vs.length = 2 := by
  obtain ⟨_, _, rfl, _⟩ := h; rfl
theorem spX2_len {C : Addr} {f g : Str} (vs : List V) (H : Hp) (Q : VK) (E : XK) (h : spX2 C f g vs H Q E) : vs.length = 3 := by
  obtain ⟨_, _, _, rfl, _⟩ := h; rfl
end Z

/-! Z9: names of the built-ins; methods of texts; truth. -/
namespace Z
open PySem PySem.Spec PyProof.Rows L2
theorem bt_len : bootBuiltins "len" = some (.builtin "len") := by decide +kernel
theorem bt_int : bootBuiltins "int" = some (.type "int") := by decide +kernel
theorem bt_str : bootBuiltins "str" = some (.type "str") := by decide +kernel
theorem bt_bool : bootBuiltins "bool" = some (.type "bool") := by decide +kernel
theorem bt_list : bootBuiltins "list" = some (.type "list") := by decide +kernel
theorem bt_tuple : bootBuiltins "tuple" = some (.type "tuple") := by decide +kernel
theorem bt_dict : bootBuiltins "dict" = some (.type "dict") := by decide +kernel
theorem bt_set : bootBuiltins "set" = some (.type "set") := by decide +kernel
theorem bt_ValueError : bootBuiltins "ValueError" = some (.type "ValueError") := by decide +kernel
theorem bt_isinstance : bootBuiltins "isinstance" = some (.builtin "isinstance") := by decide +kernel
theorem bt_min : bootBuiltins "min" = some (.builtin "min") := by decide +kernel
theorem bt_max : bootBuiltins "max" = some (.builtin "max") := by decide +kernel
theorem bt_sum : bootBuiltins "sum" = some (.builtin "sum") := by decide +kernel
theorem bt_all : bootBuiltins "all" = some (.builtin "all") := by decide +kernel
theorem bt_sorted : bootBuiltins "sorted" = some (.builtin "sorted") := by decide +kernel

section
open PySem.StrLaws Builtin Builtin.Str
theorem occ_count (x : Str) (c : Nat) : ∀ (m k : Nat) (st : Array Nat × Nat), st.2 ≤ k → st.1.size ≤ k → k + m = x.length + 1 →
    (forIn (List.range' k m) st (occBody x ⟨#[c]⟩ x.length (x.length + 1))).run.fst.size = st.1.size + (x.cps.toList.drop k).count c
  | 0, k, st, _, _, h => by
    have e : x.cps.toList.drop k = [] := List.drop_eq_nil_of_le (by rw [Array.length_toList]; show x.length ≤ k; omega)
    rw [e]
    rfl
  | m + 1, k, st, h1, h2, h => by
    rw [List.range'_succ, List.forIn_cons]
    unfold occBody
    have hk : k ≤ x.length := by omega
    by_cases hc : k + (⟨#[c]⟩ : Str).length ≤ x.length ∧ subAt x ⟨#[c]⟩ k = true
    · have hx := (subAt_one x c k).mp hc
      have cnd : (st.1.size < x.length + 1 ∧ st.2 ≤ k) ∧ k + (⟨#[c]⟩ : Str).length ≤ x.length := ⟨⟨by omega, h1⟩, hc.1⟩
      rw [if_pos ⟨cnd, hc.2⟩]
      have ih := occ_count x c m (k + 1) (st.1.push k, k + (⟨#[c]⟩ : Str).length) (by show k + 1 ≤ k + 1; omega) (by rw [Array.size_push]; omega) (by omega)
      have ed : x.cps.toList.drop k = c :: x.cps.toList.drop (k + 1) := by
        obtain ⟨hlt, e⟩ := List.getElem?_eq_some_iff.mp hx
        rw [← e]
        exact List.drop_eq_getElem_cons hlt
      rw [ed, List.count_cons_self]
      rw [Array.size_push] at ih
      have := ih
      show (forIn (List.range' (k + 1) m) (st.1.push k, k + (⟨#[c]⟩ : Str).length) (occBody x ⟨#[c]⟩ x.length (x.length + 1))).run.fst.size = _
      rw [ih]
      omega
    · have cnd : ¬ (((st.1.size < x.length + 1 ∧ st.2 ≤ k) ∧ k + (⟨#[c]⟩ : Str).length ≤ x.length) ∧ subAt x ⟨#[c]⟩ k = true) := fun q => hc ⟨q.1.2, q.2⟩
      rw [if_neg cnd]
      have ih := occ_count x c m (k + 1) st (by omega) (by omega) (by omega)
      show (forIn (List.range' (k + 1) m) (st.1, st.2) (occBody x ⟨#[c]⟩ x.length (x.length + 1))).run.fst.size = _
      rw [show (st.1, st.2) = st from rfl, ih]
      have hx : x.cps.toList[k]? ≠ some c := fun q => hc ((subAt_one x c k).mpr q)
      by_cases hlt : k < x.cps.toList.length
      · rw [List.drop_eq_getElem_cons hlt, List.count_cons]
        rw [List.getElem?_eq_getElem hlt] at hx
        have : (x.cps.toList[k] == c) = false := by
          simp only [beq_eq_false_iff_ne]
          exact fun q => hx (congrArg some q)
        rw [this]
        simp
      · rw [List.drop_eq_nil_of_le (by omega), List.drop_eq_nil_of_le (by omega)]
theorem txt_count (a : List Nat) (c : Nat) : Txt.count (tx a) (tx [c]) = (a.count c : Nat) := by
  unfold Txt.count
  have h := occ_count (tx a) c ((tx a).length + 1) 0 (#[], 0) (Nat.le_refl _) (by simp) (by omega)
  rw [List.drop_zero, tx_cps] at h
  have e : (occurrences (tx a) (tx [c]) 0 (tx a).length ((tx a).length + 1)).length = a.count c := by
    rw [occ_eq]
    rw [Array.length_toList]
    have h2 : (tx a).length + 1 - 0 = (tx a).length + 1 := by omega
    rw [h2]
    have h3 : _ = (#[] : Array Nat).size + List.count c a := h
    rw [show (#[] : Array Nat).size + List.count c a = List.count c a from Nat.zero_add _] at h3
    exact h3
  rw [e]
end
/-- joined by a separator -/
def joinL (sep : List Nat) : List (List Nat) → List Nat
  | [] => []
  | [x] => x
  | x :: y :: r => x ++ sep ++ joinL sep (y :: r)
theorem join_fold (sep : List Nat) : ∀ (r : List (List Nat)) (acc x : List Nat), (r.map tx).foldl (fun acc p => acc ++ (tx sep).cps ++ p.cps) (acc ++ x).toArray = (acc ++ joinL sep (x :: r)).toArray
  | [], acc, x => by simp [joinL]
  | y :: r, acc, x => by
    rw [List.map_cons, List.foldl_cons]
    have e : (acc ++ x).toArray ++ (tx sep).cps ++ (tx y).cps = (acc ++ x ++ sep ++ y).toArray := by simp [tx]
    rw [e, join_fold sep r (acc ++ x ++ sep) y]
    simp [joinL]
theorem txt_join (sep : List Nat) (xs : List (List Nat)) : Txt.join (tx sep) (xs.map tx) = tx (joinL sep xs) := by
  cases xs with
  | nil => rfl
  | cons x r =>
    have h := join_fold sep r [] x
    show (⟨_⟩ : Str) = ⟨_⟩
    congr 1
def rCountT : V → List V → Hp → VK → Prop := fun x xs H Q => ∃ a b, x = .str a ∧ xs = [.str b] ∧ Q (.int (Txt.count a b)) H
def zJoin (K : PySem.W.Frag) : V → List V → Hp → VK → Prop := fun x xs H Q => ∃ a p, ∃ ys : List Str, x = .str a ∧ xs = [.ref p] ∧ (SqL K H p (ys.map V.str) ∨ SqT K H p (ys.map V.str)) ∧ (ys.map (·.length)).sum + ys.length * a.length ≤ 16777216 ∧ Q (.str (Txt.join a ys)) H
theorem mt_zCountT {X : Cx} : MtR X "str.count" rCountT := mt_count
theorem mt_zJoin {X : Cx} : MtR X "str.join" (zJoin X.K) := mt_join
def zTru (K : PySem.W.Frag) (ta : TE) : TT := fun σ H Q => ta σ H fun x H' => ∃ k, TruV K x H' k ∧ Q k H'
theorem pt_zTru {X : Cx} {a : Expr} {ta : TE} (ha : PE X a ta) (he : ∀ whole, isTrue a X.env whole = (do let v ← whole; standAt a.pos; holding [v] (truthy v)) := by intro _; rfl) : PT X a (zTru X.K ta) := pt_truth ha he
section
variable {B : Bx} {Γ : List Sl} {to te : TE} {aa : TA} {a : List Nat} {as ds : List D} {c : D}
theorem ev_bmT {x : Str} {r : V → List V → Hp → VK → Prop} (ho : Ev B to Γ (.str x)) (ha : EvA B aa Γ as) (hr : RM B r (.str x) as c) : Ev B (tBM B.K "str" r to aa) Γ c := fun σ G H Q S q =>
  ho σ G H _ S fun v G1 H1 f1 r1 => by
    cases r1
    exact ⟨rfl, ha σ G1 H1 _ (S.step f1) fun vs G2 H2 f2 r2 => hr _ vs G2 H2 Q f2.e (.str _) r2 fun v G3 H3 f3 r3 => q v G3 H3 ((f1.trans f2).trans f3) r3⟩
theorem ev_bmT0 {x : Str} {r : V → List V → Hp → VK → Prop} (ho : Ev B to Γ (.str x)) (hr : RM B r (.str x) [] c) : Ev B (tBM0 B.K "str" r to) Γ c := fun σ G H Q S q =>
  ho σ G H _ S fun v G1 H1 f1 r1 => by
    cases r1
    exact ⟨rfl, hr _ [] G1 H1 Q f1.e (.str _) .nil fun v G3 H3 f3 r3 => q v G3 H3 (f1.trans f3) r3⟩
theorem rm_count {n : Nat} : RM B rCountT (.str (tx a)) [.str (tx [n])] (.int (a.count n : Nat)) := fun x xs G H Q s r rs q => by
  cases r
  cases rs with
  | cons r1 r2 =>
    cases r1; cases r2
    exact ⟨_, _, rfl, rfl, by rw [txt_count]; exact q _ G H (.refl s) (.int _)⟩
theorem map_tx (xs : List (List Nat)) : (xs.map fun a => V.str (tx a)) = (xs.map tx).map V.str := by rw [List.map_map]; rfl
theorem rm_join {xs : List (List Nat)} (h : (xs.map (·.length)).sum + xs.length * a.length ≤ 16777216) : RM B (zJoin B.K) (.str (tx a)) [.lst (xs.map fun x => .str (tx x))] (.str (tx (joinL a xs))) := fun x ys G H Q s r rs q => by
  cases r
  cases rs with
  | cons r1 r2 =>
    cases r2
    cases r1 with
    | lst h1 r1 =>
      have e := rps_txs_inv r1
      subst e
      rw [map_tx] at h1
      refine ⟨_, _, xs.map tx, rfl, rfl, .inl (same_l s h1), ?_, by rw [txt_join]; exact q _ G H (.refl s) (.str _)⟩
      have e2 : ((xs.map tx).map (·.length)) = xs.map (·.length) := by rw [List.map_map]; exact List.map_congr_left fun x _ => tx_length x
      rw [e2, List.length_map, tx_length]
      exact h
theorem evt_truL (h : Ev B te Γ (.lst ds)) : EvT B (zTru B.K te) Γ (!ds.isEmpty) := fun σ G H Q S q =>
  h σ G H _ S fun v G1 H1 f r => by
    cases r with
    | lst h1 r1 => exact ⟨_, .inl ⟨_, same_l f.e h1, rfl⟩, by
        have := r1.length
        rename_i xs
        have e : (!xs.isEmpty) = !ds.isEmpty := by cases r1 <;> rfl
        rw [e]; exact q G1 H1 f⟩
end
end Z

/-! Z10: tactics by name; cell and digits, the helpers of every law. -/
namespace Z
open PySem PySem.Spec PyProof.Rows L2
theorem log2_lt {n k : Nat} (h : n < 2 ^ k) (hk : 0 < k) : n.log2 < k := by
  by_cases h0 : n = 0
  · subst h0; exact hk
  · exact (Nat.log2_lt h0).mpr h
theorem cmul_s {i j : Int} (h1 : -(2 ^ 200) < i) (h2 : i < 2 ^ 200) (h3 : -(2 ^ 200) < j) (h4 : j < 2 ^ 200) : CMulW i j := by
  have a := log2_lt (n := i.natAbs) (k := 200) (by omega) (by decide)
  have b := log2_lt (n := j.natAbs) (k := 200) (by omega) (by decide)
  unfold CMulW
  omega
theorem cdiv_s {i j : Int} (h1 : 0 < j) (h2 : j < 2 ^ 200) : CDivW i j := by
  have b := log2_lt (n := j.natAbs) (k := 200) (by omega) (by decide)
  unfold CDivW
  omega
theorem ru_neg {B : Bx} {i : Int} : RU B (rU fun i => .int (-i)) (.int i) (.int (-i)) := fun x G H Q s rx q => by
  cases rx; exact ⟨i, rfl, q _ G H (.refl s) (.int _)⟩
theorem ev_tupX {B : Bx} {Γ : List Sl} {aa : TA} {ds : List D} (ha : EvA B aa Γ ds) (hl : ds.length ≤ 16777216) : Ev B (tTup aa) Γ (.tup ds) := ev_tup ha hl
theorem evo_lstX {B : Bx} {Γ : List Sl} {aa : TA} {ds : List D} (ha : EvA B aa Γ ds) (hl : ds.length ≤ 16777216) : EvO B (tLst aa) Γ (.lst ds) := evo_lst ha hl
local macro_rules | `(tactic| walk_at "at") => `(tactic| first | with_reducible exact SetAt.zero | ((with_reducible apply SetAt.succ); walk_at "at"))
local macro_rules | `(tactic| walk_at "sd") => `(tactic| first | (with_reducible assumption) | omega | decide | exact Nat.le_of_ble_eq_true rfl)
local macro_rules | `(tactic| walk_at "cm") => `(tactic| first | (with_reducible assumption) | (refine cmul_s ?_ ?_ ?_ ?_ <;> first | omega | decide))
local macro_rules | `(tactic| walk_at "rv") => `(tactic| first
  | with_reducible exact rv_add | ((with_reducible apply rv_addT); walk_at "sd") | ((with_reducible apply rv_addL); walk_at "sd") | ((with_reducible apply rv_addU); walk_at "sd")
  | with_reducible exact rv_sub | ((with_reducible apply rv_mul); walk_at "cm") | ((with_reducible apply rv_mulT) <;> walk_at "sd")
  | ((with_reducible apply rv_div); first | assumption | exact cdiv_s (by walk_at "sd") (by walk_at "sd")) | ((with_reducible apply rv_mod); walk_at "sd") | ((with_reducible apply rv_pow); exact ⟨by decide, by decide, by decide⟩)
  | with_reducible exact rv_lt | with_reducible exact rv_le | with_reducible exact rv_gt | with_reducible exact rv_ge
  | with_reducible exact rv_eqI | with_reducible exact rv_eqT | with_reducible exact rv_eqB | with_reducible exact rv_neI | with_reducible exact rv_neT | with_reducible exact rv_neB
  | ((with_reducible apply rv_ixL); first | assumption | exact rfl) | ((with_reducible apply rv_ixU); first | assumption | exact rfl) | ((with_reducible apply rv_ixT); (focus (first | assumption | exact rfl)); walk_at "sd")
  | with_reducible exact rv_isN | with_reducible exact rv_isN' | with_reducible exact rv_notN'
  | with_reducible exact rv_inT | with_reducible exact rv_ninT | with_reducible exact rv_inTs | with_reducible exact rv_ninTs | with_reducible assumption)
local macro_rules | `(tactic| walk_at "rc") => `(tactic| first | with_reducible exact rc_int | with_reducible exact rc_intB | with_reducible exact rc_lenL | with_reducible exact rc_lenU | ((with_reducible apply rc_lenT); walk_at "sd") | with_reducible exact rc_min | with_reducible exact rc_max | ((with_reducible apply rc_isi); (focus (exact rfl)); decide) | with_reducible assumption)
local macro_rules | `(tactic| walk_at "rs") => `(tactic| first | with_reducible exact rs_slL | with_reducible exact rs_slU | ((with_reducible apply rs_slT); walk_at "sd"))
local macro_rules | `(tactic| walk_at "ru") => `(tactic| first | ((with_reducible apply ru_rev); walk_at "sd") | with_reducible exact ru_neg)
local macro_rules | `(tactic| walk_at "rm") => `(tactic| first | with_reducible exact rm_count | with_reducible assumption)
local macro_rules | `(tactic| walk_at "eo") => `(tactic| first
  | ((with_reducible apply evo_lstX); (focus (walk_at "ev")); exact Nat.le_of_ble_eq_true rfl)
  | ((with_reducible apply evo_callS); (focus (walk_at "ev")); (focus (walk_at "fn")))
  | with_reducible assumption)
local macro_rules | `(tactic| walk_at "ev") => `(tactic| first
  | ((with_reducible apply ev_var); exact rfl)
  | with_reducible exact ev_int | with_reducible exact ev_str | with_reducible exact ev_bl | with_reducible exact ev_non | with_reducible exact ev_ty | with_reducible exact ev_ref
  | with_reducible exact eva_nil
  | ((with_reducible apply eva_cons); (focus (walk_at "ev")); (focus (walk_at "ev")))
  | ((with_reducible apply ev_op); (focus (walk_at "ev")); (focus (walk_at "ev")); (focus (walk_at "rv")))
  | ((with_reducible apply ev_cb); (focus (walk_at "ev")); (focus (walk_at "rc")))
  | ((with_reducible apply evt_test); (focus (walk_at "ev")))
  | ((with_reducible apply evt_b); (focus (walk_at "ev")))
  | ((with_reducible apply evt_not); (focus (walk_at "ev")))
  | ((with_reducible apply evt_and); (focus (walk_at "ev")); (focus (intro _; walk_at "ev")))
  | ((with_reducible apply evt_or); (focus (walk_at "ev")); (focus (intro _; walk_at "ev")))
  | with_reducible exact evt_yes
  | ((with_reducible apply ev_and); (focus (walk_at "ev")); (focus (intro _; walk_at "ev")))
  | ((with_reducible apply ev_or); (focus (walk_at "ev")); (focus (intro _; walk_at "ev")))
  | ((with_reducible apply ev_not); (focus (walk_at "ev")))
  | ((with_reducible apply ev_callS); (focus (walk_at "ev")); (focus (walk_at "fn")))
  | ((with_reducible apply ev_call); (focus (walk_at "ev")); (focus (walk_at "fn")))
  | ((with_reducible apply ev_tupX); (focus (walk_at "ev")); exact Nat.le_of_ble_eq_true rfl)
  | with_reducible exact evp_none
  | ((with_reducible apply evp_some); (focus (walk_at "ev")))
  | ((with_reducible apply ev_sl); (focus (walk_at "ev")); (focus (walk_at "ev")); (focus (walk_at "ev")); (focus (walk_at "rs")))
  | ((with_reducible apply ev_un); (focus (walk_at "ev")); (focus (walk_at "ru")))
  | ((with_reducible apply ev_bmT); (focus (walk_at "ev")); (focus (walk_at "ev")); (focus (walk_at "rm")))
  | ((with_reducible apply ev_bmT0); (focus (walk_at "ev")); (focus (walk_at "rm")))
  | ((with_reducible apply evi_list); (focus (walk_at "ev")))
  | ((with_reducible apply evi_tup); (focus (walk_at "ev")))
  | ((with_reducible apply evi_str); (focus (walk_at "ev")))
  | ((with_reducible apply evi_rng1); (focus (walk_at "ev")); (focus (constructor <;> walk_at "sd")))
  | ((with_reducible apply evi_rng2); (focus (walk_at "ev")); (focus (constructor <;> walk_at "sd")); (focus (constructor <;> walk_at "sd")))
  | ((with_reducible apply Ev.of_own); walk_at "eo")
  | with_reducible assumption)
local macro_rules | `(tactic| walk_at "st") => `(tactic| repeat (first
  | (with_reducible apply sv_seq)
  | ((with_reducible apply sv_set); (focus (walk_at "ev")); (focus (walk_at "at")))
  | ((with_reducible apply sv_drop); (focus (walk_at "ev")))
  | (with_reducible apply sv_next)))
local macro_rules | `(tactic| walk_at "eq") => `(tactic| (with_reducible apply ev_eq); (focus (walk_at "ev")); rfl)
section
variable {B : Bx} {W : WX} {Γ : List Sl} {P : Po} {tb : TS} {g : TG} {wi : TI}
/-- for, by the index -/
theorem sv_forI {α : Type} (enc : α → D) (xs : List α) (hi : EvI B wi Γ (xs.map enc)) (V : Nat → List Sl → Prop) (h0 : V 0 Γ) (hd : ∀ Γ', V xs.length Γ' → P.nx Γ')
    (hs : ∀ i x Γ', xs[i]? = some x → V i Γ' → ∃ Γ2, EvG B g Γ' (enc x) Γ2 ∧ Sv B W tb Γ2 { P with nx := V (i + 1), ct := V (i + 1), bk := P.nx }) : Sv B W (tFor wi g tb) Γ P :=
  sv_for enc xs hi (fun r Γ' => ∃ i, i ≤ xs.length ∧ r = xs.drop i ∧ V i Γ') ⟨0, Nat.zero_le _, rfl, h0⟩
    (fun Γ' ⟨i, hl, e, v⟩ => by
      have : xs.length ≤ i := List.drop_eq_nil_iff.mp e.symm
      have e2 : i = xs.length := Nat.le_antisymm hl this
      subst e2
      exact hd Γ' v)
    fun x r Γ' _ ⟨i, hl, e, v⟩ => by
      have hlt : i < xs.length := by
        rcases Nat.lt_or_ge i xs.length with h | h
        · exact h
        · rw [List.drop_eq_nil_of_le h] at e; cases e
      rw [List.drop_eq_getElem_cons hlt] at e
      injection e with e1 e2
      obtain ⟨Γ2, hg, hb⟩ := hs i x Γ' (by rw [List.getElem?_eq_getElem hlt, e1]) v
      exact ⟨Γ2, hg, sv_post hb (fun _ q => ⟨i + 1, hlt, e2, q⟩) (fun _ q => q) (fun _ q => q) (fun _ q => ⟨i + 1, hlt, e2, q⟩) fun _ _ q => q⟩
theorem sv_forR {n : Nat} (hi : EvI B wi Γ ((List.range n).map fun k => .int (k : Nat))) (V : Nat → List Sl → Prop) (h0 : V 0 Γ) (hd : ∀ Γ', V n Γ' → P.nx Γ')
    (hs : ∀ k Γ', k < n → V k Γ' → ∃ Γ2, EvG B g Γ' (.int (k : Nat)) Γ2 ∧ Sv B W tb Γ2 { P with nx := V (k + 1), ct := V (k + 1), bk := P.nx }) : Sv B W (tFor wi g tb) Γ P :=
  sv_forI _ (List.range n) hi V h0 (fun Γ' v => hd Γ' (by rw [List.length_range] at v; exact v)) fun i x Γ' hx v => by
    obtain ⟨hlt, e⟩ := List.getElem?_eq_some_iff.mp hx
    rw [List.length_range] at hlt
    rw [List.getElem_range] at e
    subst e
    exact hs i Γ' hlt v
end
/-! cell -/
def cellStep (s c : Int) : Int := (s * 31 + c % 1000003) % 1000003
def cellZ (ns : List Int) (k : Int) : Int := match ns[k.toNat]? with
  | some n => n % (10 ^ 60 * 10 ^ 60)
  | none => (ns.foldl cellStep 17 + 7) * (k + 3) * 69621 % 2147483647
theorem cellStep_lt (s c : Int) : 0 ≤ cellStep s c ∧ cellStep s c < 1000003 := ⟨Int.emod_nonneg _ (by decide), Int.emod_lt_of_pos _ (by decide)⟩
theorem cellZ_lt (ns : List Int) (k : Int) : 0 ≤ cellZ ns k ∧ cellZ ns k < 10 ^ 120 := by
  unfold cellZ
  split
  · exact ⟨Int.emod_nonneg _ (by decide), Int.emod_lt_of_pos _ (by decide)⟩
  · have h1 := Int.emod_nonneg ((List.foldl cellStep 17 ns + 7) * (k + 3) * 69621) (show (2147483647 : Int) ≠ 0 by decide)
    have h2 := Int.emod_lt_of_pos ((List.foldl cellStep 17 ns + 7) * (k + 3) * 69621) (show (0 : Int) < 2147483647 by decide)
    omega
def ztCell (K : PySem.W.Frag) : TS :=
  (tSeq (tIfS (tTest (tOp zLt (tVar 1) (tCB (zLen K) (tCons (tVar 0) tNil)))) (tRet (tOp zMod (tCB zInt (tCons (tOp (zIx K) (tVar 0) (tVar 1)) tNil)) (tOp zMul (tOp zPow (tC (.int 10)) (tC (.int 60))) (tOp zPow (tC (.int 10)) (tC (.int 60)))))) tNext)
  (tSeq (tAsg (tC (.int 17)) (gName 2))
  (tSeq (tFor (iList K (tVar 0)) (gName 3) (tAsg (tOp zMod (tCB zInt (tCons (tOp (zAdd K) (tOp zMul (tVar 2) (tC (.int 31))) (tOp zMod (tCB zInt (tCons (tVar 3) tNil)) (tC (.int 1000003)))) tNil)) (tC (.int 1000003))) (gName 2)))
  (tRet (tOp zMod (tCB zInt (tCons (tOp zMul (tOp zMul (tOp (zAdd K) (tVar 2) (tC (.int 7))) (tOp (zAdd K) (tVar 1) (tC (.int 3)))) (tC (.int 69621))) tNil)) (tC (.int 2147483647)))))))
def Fcell : Fn := fun ds R _ => ∃ (ns : List Int) (k : Int), ds = [.lst (ns.map .int), .int k] ∧ 0 ≤ k ∧ k < 2 ^ 62 ∧ R (.dat (.int (cellZ ns k)))
theorem pure_cell (B : Bx) (W : WX) (ds : List D) (R : Sl → Prop) (X : Xc → Prop) (h : Fcell ds R X) : Sv B W (ztCell B.K) (ini ["script", "k", "seed", "cell"] ds) { nx := fun _ => R (.dat .non), rt := R, xc := fun x _ => X x } := by
  obtain ⟨ns, k, rfl, h0, h1, hR⟩ := h
  show Sv B W _ [.dat (.lst (ns.map .int)), .dat (.int k), .un, .un] _
  refine sv_seq (sv_if (by walk_at "ev") (fun hk => ?_) fun hk => ?_)
  · rw [List.length_map] at hk
    have hlt : k.toNat < ns.length := by have := of_decide_eq_true hk; omega
    have hx : atI (ns.map D.int) k = some (.int ns[k.toNat]) := by
      have e : ((k.toNat : Nat) : Int) = k := by omega
      have h2 : atI (ns.map D.int) ((k.toNat : Nat) : Int) = some (.int ns[k.toNat]) := atI_ofNat (by rw [List.getElem?_map, List.getElem?_eq_getElem hlt]; rfl)
      rw [e] at h2
      exact h2
    have c1 : CMulW (10 ^ (60 : Int).toNat) (10 ^ (60 : Int).toNat) := cmul_s (by decide +kernel) (by decide +kernel) (by decide +kernel) (by decide +kernel)
    have c2 : (0 : Int) < 10 ^ (60 : Int).toNat * 10 ^ (60 : Int).toNat := by decide +kernel
    refine sv_ret (by walk_at "ev") ?_
    unfold cellZ at hR
    rw [List.getElem?_eq_getElem hlt] at hR
    exact hR
  · rw [List.length_map] at hk
    have hge : ns.length ≤ k.toNat := by have := of_decide_eq_false hk; omega
    refine sv_next ?_
    walk_at "st"
    refine sv_for D.int ns (by walk_at "ev") (fun r Γ' => ∃ (s : Int) (c : Sl), Γ' = [.dat (.lst (ns.map .int)), .dat (.int k), .dat (.int s), c] ∧ 0 ≤ s ∧ s < 1000003 ∧ ns.foldl cellStep 17 = r.foldl cellStep s) ⟨17, _, rfl, by decide, by decide, rfl⟩ ?_ ?_
    · rintro Γ' ⟨s, c, rfl, b1, b2, e⟩
      have hv : cellZ ns k = (s + 7) * (k + 3) * 69621 % 2147483647 := by
        unfold cellZ
        rw [List.getElem?_eq_none hge, e]
        rfl
      rw [hv] at hR
      refine sv_ret ?_ hR
      have c1 : CMulW (s + 7) (k + 3) := cmul_s (by omega) (by omega) (by omega) (by omega)
      have c2 : CMulW ((s + 7) * (k + 3)) 69621 := by
        have m1 : 0 ≤ (s + 7) * (k + 3) := Int.mul_nonneg (by omega) (by omega)
        have m2 : (s + 7) * (k + 3) ≤ 2 ^ 64 * 2 ^ 64 := Int.mul_le_mul (by omega) (by omega) (by omega) (by omega)
        exact cmul_s (by omega) (by omega) (by decide) (by decide)
      walk_at "ev"
    · rintro x r Γ' _ ⟨s, c, rfl, b1, b2, e⟩
      refine ⟨_, evg_name (by walk_at "at"), ?_⟩
      refine sv_set (by walk_at "ev") (by walk_at "at") ?_
      exact ⟨_, _, rfl, (cellStep_lt s x).1, (cellStep_lt s x).2, e⟩
/-! digits -/
def digA : Int → List Int → List Int
  | _, [] => []
  | r, s :: ss => r % s :: digA (r / s) ss
def digSeed (seed : Int) (k : Nat) : Int := (seed * 48271 + 974711 * (k : Nat) + 12345) % 2147483647
def digTwice (seed : Int) : Int := seed * (seed / 65537 + 3) % 2147483629
def digB : Int → Nat → List Int → List Int
  | _, _, [] => []
  | seed, k, s :: ss => digTwice (digSeed seed k) / 19 % s :: digB (digSeed seed k) (k + 1) ss
def digits (z : Int) (sizes : List Int) : List Int := if 10 ^ 18 ≤ z then digA (z - 10 ^ 18) sizes else digB (z % 2147483629) 0 sizes
theorem digA_len : ∀ (ss : List Int) (r : Int), (digA r ss).length = ss.length
  | [], _ => rfl
  | s :: ss, r => congrArg (· + 1) (digA_len ss (r / s))
theorem digB_len : ∀ (ss : List Int) (r : Int) (k : Nat), (digB r k ss).length = ss.length
  | [], _, _ => rfl
  | s :: ss, r, k => congrArg (· + 1) (digB_len ss _ _)
theorem digits_len (z : Int) (ss : List Int) : (digits z ss).length = ss.length := by
  unfold digits
  split
  · exact digA_len _ _
  · exact digB_len _ _ _
theorem digA_lt : ∀ (ss : List Int) (r : Int) (i : Nat) (s : Int), ss[i]? = some s → 0 < s → ∃ d, (digA r ss)[i]? = some d ∧ 0 ≤ d ∧ d < s
  | [], _, _, _, h, _ => by simp at h
  | t :: ss, r, 0, s, h, hs => by
    simp at h; subst h
    exact ⟨_, rfl, Int.emod_nonneg _ (by omega), Int.emod_lt_of_pos _ hs⟩
  | t :: ss, r, i + 1, s, h, hs => by
    obtain ⟨d, h1, h2⟩ := digA_lt ss (r / t) i s (by simpa using h) hs
    exact ⟨d, by simpa [digA] using h1, h2⟩
theorem digB_lt : ∀ (ss : List Int) (r : Int) (k : Nat) (i : Nat) (s : Int), ss[i]? = some s → 0 < s → ∃ d, (digB r k ss)[i]? = some d ∧ 0 ≤ d ∧ d < s
  | [], _, _, _, _, h, _ => by simp at h
  | t :: ss, r, k, 0, s, h, hs => by
    simp at h; subst h
    exact ⟨_, rfl, Int.emod_nonneg _ (by omega), Int.emod_lt_of_pos _ hs⟩
  | t :: ss, r, k, i + 1, s, h, hs => by
    obtain ⟨d, h1, h2⟩ := digB_lt ss (digSeed r k) (k + 1) i s (by simpa using h) hs
    exact ⟨d, by simpa [digB] using h1, h2⟩
theorem digits_lt (z : Int) (ss : List Int) (i : Nat) (s : Int) (h : ss[i]? = some s) (hs : 0 < s) : ∃ d, (digits z ss)[i]? = some d ∧ 0 ≤ d ∧ d < s := by
  unfold digits
  split
  · exact digA_lt ss _ i s h hs
  · exact digB_lt ss _ 0 i s h hs
theorem digSeed_lt (s : Int) (k : Nat) : 0 ≤ digSeed s k ∧ digSeed s k < 2147483647 := ⟨Int.emod_nonneg _ (by decide), Int.emod_lt_of_pos _ (by decide)⟩
def ztDigits (K : PySem.W.Frag) : TS :=
  (tSeq (tAsg (tLst tNil) (gName 2))
  (tSeq (tAsg (tCB zInt (tCons (tVar 0) tNil)) (gName 3))
  (tSeq (tIfS (tTest (tOp zGe (tVar 3) (tOp zPow (tC (.int 10)) (tC (.int 18))))) (tSeq (tAsg (tOp zSub (tVar 3) (tOp zPow (tC (.int 10)) (tC (.int 18)))) (gName 3))
  (tSeq (tFor (iList K (tVar 1)) (gName 4) (tSeq (tDrop (tBM K "list" rAppend (tVar 2) (tCons (tOp zMod (tCB zInt (tCons (tVar 3) tNil)) (tVar 4)) tNil)))
  (tAsg (tOp zDiv (tCB zInt (tCons (tVar 3) tNil)) (tVar 4)) (gName 3))))
  (tRet (tVar 2)))) tNext)
  (tSeq (tAsg (tOp zMod (tCB zInt (tCons (tVar 3) tNil)) (tC (.int 2147483629))) (gName 5))
  (tSeq (tFor (iRng1 (tCons (tCB (zLen K) (tCons (tVar 1) tNil)) tNil)) (gName 6) (tSeq (tAsg (tOp zMod (tCB zInt (tCons (tOp (zAdd K) (tOp (zAdd K) (tOp zMul (tVar 5) (tC (.int 48271))) (tOp zMul (tC (.int 974711)) (tVar 6))) (tC (.int 12345))) tNil)) (tC (.int 2147483647))) (gName 5))
  (tSeq (tAsg (tOp zMod (tCB zInt (tCons (tOp zMul (tVar 5) (tOp (zAdd K) (tOp zDiv (tVar 5) (tC (.int 65537))) (tC (.int 3)))) tNil)) (tC (.int 2147483629))) (gName 7))
  (tDrop (tBM K "list" rAppend (tVar 2) (tCons (tOp zMod (tOp zDiv (tVar 7) (tC (.int 19))) (tOp (zIx K) (tVar 1) (tVar 6))) tNil))))))
  (tRet (tVar 2)))))))
def Fdigits : Fn := fun ds R _ => ∃ (z : Int) (ss : List Int), ds = [.int z, .lst (ss.map .int)] ∧ (∀ s ∈ ss, 0 < s ∧ s < 2 ^ 100) ∧ ss.length < 1000000 ∧ R (.own (.lst ((digits z ss).map .int)))
theorem map_snoc (row : List Int) (d : Int) : row.map D.int ++ [.int d] = (row ++ [d]).map D.int := by simp
theorem pure_digits (B : Bx) (W : WX) (ds : List D) (R : Sl → Prop) (X : Xc → Prop) (h : Fdigits ds R X) : Sv B W (ztDigits B.K) (ini ["cell", "sizes", "row", "rest", "size", "seed", "k", "twice"] ds) { nx := fun _ => R (.dat .non), rt := R, xc := fun x _ => X x } := by
  obtain ⟨z, ss, rfl, hs, hl, hR⟩ := h
  show Sv B W _ [.dat (.int z), .dat (.lst (ss.map .int)), .un, .un, .un, .un, .un, .un] _
  refine sv_seq (sv_setO (by walk_at "eo") (by walk_at "at") ?_)
  refine sv_seq (sv_set (by walk_at "ev") (by walk_at "at") ?_)
  refine sv_seq (sv_if (by walk_at "ev") (fun hk => ?_) fun hk => ?_)
  · refine sv_seq (sv_set (by walk_at "ev") (by walk_at "at") ?_)
    have hz : 10 ^ 18 ≤ z := of_decide_eq_true hk
    unfold digits at hR
    rw [if_pos hz] at hR
    refine sv_seq (sv_forI D.int ss (by walk_at "ev") (fun i Γ' => ∃ (row : List Int) (r : Int) (c : Sl), Γ' = [.dat (.int z), .dat (.lst (ss.map .int)), .own (.lst (row.map .int)), .dat (.int r), c, .un, .un, .un] ∧ row.length = i ∧ digA (z - 10 ^ 18) ss = row ++ digA r (ss.drop i)) ⟨[], _, _, rfl, rfl, rfl⟩ ?_ ?_)
    · rintro Γ' ⟨row, r, c, rfl, hr, e⟩
      rw [List.drop_length] at e
      rw [e] at hR
      refine sv_retOv rfl ?_
      show R _
      rw [show digA r [] = [] from rfl, List.append_nil] at hR
      exact hR
    · rintro i x Γ' hx ⟨row, r, c, rfl, hr, e⟩
      have hlt : i < ss.length := (List.getElem?_eq_some_iff.mp hx).1
      obtain ⟨hx1, hx2⟩ := hs x (List.mem_of_getElem? hx)
      refine ⟨_, evg_name (by walk_at "at"), ?_⟩
      refine sv_seq (sv_app rfl (by walk_at "ev") (by rw [List.length_map]; omega) (by walk_at "at") ?_)
      refine sv_set (by walk_at "ev") (by walk_at "at") ?_
      refine ⟨row ++ [r % x], r / x, .dat (.int x), by rw [map_snoc], by simp [hr], ?_⟩
      · rw [e]
        have ed : ss.drop i = x :: ss.drop (i + 1) := by
          rw [List.drop_eq_getElem_cons hlt]
          rw [List.getElem?_eq_getElem hlt] at hx
          rw [Option.some.inj hx]
        rw [ed]
        simp [digA]
  · refine sv_next ?_
    have hz : ¬ 10 ^ 18 ≤ z := of_decide_eq_false hk
    unfold digits at hR
    rw [if_neg hz] at hR
    refine sv_seq (sv_set (by walk_at "ev") (by walk_at "at") ?_)
    have hi : EvI B (iRng1 (tCons (tCB (zLen B.K) (tCons (tVar 1) tNil)) tNil)) [.dat (.int z), .dat (.lst (ss.map .int)), .own (.lst []), .dat (.int z), .un, .dat (.int (z % 2147483629)), .un, .un] ((List.range ss.length).map fun k => .int (k : Nat)) := by
      have := evi_rng1 (B := B) (Γ := [.dat (.int z), .dat (.lst (ss.map .int)), .own (.lst []), .dat (.int z), .un, .dat (.int (z % 2147483629)), .un, .un]) (aa := tCons (tCB (zLen B.K) (tCons (tVar 1) tNil)) tNil) (n := ((ss.map D.int).length : Nat)) (by walk_at "ev") (by rw [List.length_map]; omega)
      rw [List.length_map] at this
      exact this
    refine sv_seq (sv_forR hi (fun i Γ' => ∃ (row : List Int) (s : Int) (c1 c2 : Sl), Γ' = [.dat (.int z), .dat (.lst (ss.map .int)), .own (.lst (row.map .int)), .dat (.int z), .un, .dat (.int s), c1, c2] ∧ row.length = i ∧ 0 ≤ s ∧ s < 2147483647 ∧ digB (z % 2147483629) 0 ss = row ++ digB s i (ss.drop i)) ⟨[], _, _, _, rfl, rfl, by omega, by omega, rfl⟩ ?_ ?_)
    · rintro Γ' ⟨row, s, c1, c2, rfl, hr, b1, b2, e⟩
      rw [List.drop_length] at e
      rw [e] at hR
      refine sv_retOv rfl ?_
      show R _
      rw [show digB s ss.length [] = [] from rfl, List.append_nil] at hR
      exact hR
    · rintro i Γ' hlt ⟨row, s, c1, c2, rfl, hr, b1, b2, e⟩
      have hx : ss[i]? = some ss[i] := List.getElem?_eq_getElem hlt
      obtain ⟨hx1, hx2⟩ := hs ss[i] (List.getElem_mem hlt)
      obtain ⟨q1, q2⟩ := digSeed_lt s i
      have hat : atI (ss.map D.int) ((i : Nat) : Int) = some (.int ss[i]) := atI_ofNat (by rw [List.getElem?_map, hx]; rfl)
      refine ⟨_, evg_name (by walk_at "at"), ?_⟩
      refine sv_seq (sv_set (d := .int (digSeed s i)) (by walk_at "eq") (by walk_at "at") ?_)
      have c1 : CMulW (digSeed s i) (digSeed s i / 65537 + 3) := cmul_s (by omega) (by omega) (by omega) (by omega)
      refine sv_seq (sv_set (d := .int (digTwice (digSeed s i))) (by walk_at "eq") (by walk_at "at") ?_)
      refine sv_app rfl (by walk_at "ev") (by rw [List.length_map]; omega) (by walk_at "at") ?_
      refine ⟨row ++ [digTwice (digSeed s i) / 19 % ss[i]], digSeed s i, .dat (.int (i : Nat)), .dat (.int (digTwice (digSeed s i))), by rw [map_snoc], by simp [hr], q1, q2, ?_⟩
      · rw [e, List.drop_eq_getElem_cons hlt]
        simp [digB]
end Z

/-! Z11: the law's end. -/
namespace Z
open PySem PySem.Spec PyProof.Rows L2
/-- the law's promise -/
def Flaw : Fn := fun ds R _ => ∃ ns : List Int, ds = [.lst (ns.map .int)] ∧ ns.length ≤ 63 ∧ R (.dat (.bl true))
theorem flaw_len (ds : List D) (R : Sl → Prop) (X : Xc → Prop) (h : Flaw ds R X) : ds.length = 1 := by
  obtain ⟨_, rfl, _⟩ := h; rfl
theorem fcell_len (ds : List D) (R : Sl → Prop) (X : Xc → Prop) (h : Fcell ds R X) : ds.length = 2 := by
  obtain ⟨_, _, rfl, _⟩ := h; rfl
theorem fdigits_len (ds : List D) (R : Sl → Prop) (X : Xc → Prop) (h : Fdigits ds R X) : ds.length = 2 := by
  obtain ⟨_, _, rfl, _⟩ := h; rfl
theorem law_sp {K : PySem.W.Frag} (H : Hp) (a : Addr) (ns : List Int) (hl : ns.length ≤ 63) (hS : SqL K H a (ns.map V.int)) : spz K Flaw [.ref a] H (fun v _ => v = .bl true) fun _ _ _ => False :=
  ⟨H, [.lst (ns.map .int)], fun s => s = .dat (.bl true), fun _ => False, Same.refl _, .cons (.lst hS (rps_ints ns)) .nil, ⟨ns, rfl, hl, rfl⟩,
    fun s v G' H' e _ r => by subst e; cases r; rfl, fun _ _ _ _ _ z => z.elim⟩
/-- the law's end, where what flies knows the world -/
theorem walk_ofX {l : PySem.W.OpenLaw} {k : Nat} {q : Program} {loose : List Str} {XP : (Str → Option Value) → Heap → Prop} {YP : World → Heap → Prop} {d : DefRec} {x : Str}
    (hn : l.most = some 63) (hdf : d.params.defaults = []) (hr : Room k callerA)
    (F : ∀ (w : World) (mg : Str → Option Value) (fa : Addr) (h : Heap), YP w h → h.Ns mainGlobals mg → mg d.name = some (.ref fa) →
      ∃ (K : PySem.W.Frag) (fd : FuncData), K.In h ∧ (∀ (s : Shared) (u : Value), BindsTo s fd ⟨[u], []⟩ [(x, u)]) ∧
        ∀ base : Heap, K.In base → base.Ns mainGlobals mg → FnOk l.prog w K mg base (L2.CX l.prog w) k fa fd [x] (spz K Flaw)) :
    PySem.W.WalkO q loose XP YP l.row.toRowW d [] (fun f vs => PySem.call f vs) := by
  refine Att.attach_call hn hdf fun w s₀ s₁ mg mb fa o pm cd doc a vs ns G Y ho hd hcd hmg hobj hints hlen hg => ?_
  obtain ⟨K, fd, KX, hb, hF⟩ := F w mg fa _ Y G.T.g hmg
  exact law_call KX G.T.g G.T.b G.T.builtins G.T.nolimit hg hobj hints (Nat.le_trans hlen (by rw [sizeLine_eq]; decide)) hr hF hb (fun H _ hS => law_sp H a ns hlen hS)
    fun H e s' h => by obtain ⟨_, _, _, _, _, _, _, _, _, _, _, _, z⟩ := h; exact z
theorem fact_app {α : Type} {l r : List α} {i : Nat} {f : α} (h : l[i]? = some f) : (l ++ r)[i]? = some f := by
  have hlt := (List.getElem?_eq_some_iff.mp h).1
  rw [List.getElem?_append_left hlt]; exact h
theorem cut_take {α : Type} (xs : List α) (k : Nat) : cut xs none (some (k : Int)) = xs.take k := by
  unfold cut
  rw [HT.sIx_nat, HT.sIx_none, List.drop_zero, Nat.sub_zero]
  rcases Nat.le_total k xs.length with h | h
  · rw [Nat.min_eq_left h]
  · rw [Nat.min_eq_right h, List.take_of_length_le h, List.take_length]
theorem cut_drop {α : Type} (xs : List α) (k : Nat) : cut xs (some (k : Int)) none = xs.drop k := by
  unfold cut
  rw [HT.sIx_nat, HT.sIx_none]
  rcases Nat.le_total k xs.length with h | h
  · rw [Nat.min_eq_left h, List.take_of_length_le (by rw [List.length_drop]; exact Nat.le_refl _)]
  · rw [Nat.min_eq_right h, List.drop_length, List.drop_of_length_le h]; simp
theorem cut_sub {α : Type} (xs : List α) (k m : Nat) (h : k ≤ xs.length) (h2 : m ≤ xs.length) : cut xs (some (k : Int)) (some (m : Int)) = (xs.drop k).take (m - k) := by
  unfold cut
  rw [HT.sIx_nat, HT.sIx_nat, Nat.min_eq_left h, Nat.min_eq_left h2]

theorem kitT {K : PySem.W.Frag} {t : Value} : PySem.W.kitOne K t t = some true := if_pos (beq_self_eq_true t)
theorem strOk_tx {a : List Nat} (h : ∀ c ∈ a, c < 1114112) : PyData.strOk (tx a) = true := by
  unfold PyData.strOk tx
  rw [List.all_toArray, List.all_eq_true]
  intro c hc
  exact decide_eq_true (h c hc)
/-! named readings of the generator -/
def tTryAs (K : PySem.W.Frag) (c : Value) (i : Nat) (ts : Addr → Value → Option Addr → TS) (W : WX) (tb : WX → TS) : TS := fun D σ H => tb (wAs K c i ts W D) D σ H
def tTryOnly (K : PySem.W.Frag) (c : Value) (ts : Addr → Value → Option Addr → TS) (W : WX) (tb : WX → TS) : TS := fun D σ H => tb (wOnly K c ts W D) D σ H
def tRaise (C : Addr) (sp : Sp) (aa : TA) (W : WX) : TS := fun _ σ H => tMkO C sp [] aa σ H fun cls dd H' => W cls dd σ H'
section
variable {B : Bx} {W : WX} {Γ Γ' : List Sl} {P : Po} {aa : TA} {te : TE} {tt : TT} {d e : D} {C : Addr} {f g : Str} {wi : TI}
theorem svr1 (ha : EvA B aa Γ [d]) (k : P.xc ⟨C, [(f, d)]⟩ Γ) : Sv B W (tRaise C (spX1 C f) aa W) Γ P := sv_raise1 ha k
theorem svr2 (ha : EvA B aa Γ [d, e]) (k : P.xc ⟨C, [(g, e), (f, d)]⟩ Γ) : Sv B W (tRaise C (spX2 C f g) aa W) Γ P := sv_raise2 ha k
theorem svt_as {c : Value} {i : Nat} {tb : WX → TS} {ts : Addr → Value → Option Addr → TS} (hi : i < Γ.length)
    (hb : ∀ W', Sv B W' (tb W') Γ { P with xc := fun x Γx => (PySem.W.exmOne B.K (.ref x.C) c = some true ∧ Γx.length = Γ.length ∧ (∀ a d, Sv B W0 (ts a (.ref x.C) (some d)) (Γx.set i (.dat (.xc a d x.fs))) { P with nx := fun Γ' => Γ'.length = Γ.length ∧ P.nx (Γ'.set i .un), bk := fun Γ' => Γ'.length = Γ.length ∧ P.bk (Γ'.set i .un), ct := fun Γ' => Γ'.length = Γ.length ∧ P.ct (Γ'.set i .un), xc := fun _ _ => False }) ∧ x.fs ≠ [])
      ∨ (PySem.W.exmOne B.K (.ref x.C) c = some false ∧ P.xc x Γx) }) : Sv B W (tTryAs B.K c i ts W tb) Γ P := sv_try_as hi hb
theorem svt_only {c : Value} {tb : WX → TS} {ts : Addr → Value → Option Addr → TS}
    (hb : ∀ W', Sv B W' (tb W') Γ { P with xc := fun x Γx => (PySem.W.exmOne B.K (.ref x.C) c = some true ∧ (∀ a dd, Sv B W0 (ts a (.ref x.C) dd) Γx { P with xc := fun _ _ => False }))
      ∨ (PySem.W.exmOne B.K (.ref x.C) c = some false ∧ P.xc x Γx) }) : Sv B W (tTryOnly B.K c ts W tb) Γ P := sv_try_only hb
/-- a comprehension of one name -/
theorem evo_lc1 {α : Type} (enc : α → D) (xs : List α) (f : α → Bool) (v : α → D) {i : Nat} (hi : EvI B wi Γ (xs.map enc)) (hlen : i < Γ.length) (hl : xs.length < 16777216)
    (hs : ∀ x ∈ xs, EvT B tt (Γ.set i (.dat (enc x))) (f x) ∧ (f x = true → Ev B te (Γ.set i (.dat (enc x))) (v x))) : EvO B (tLc wi (gName i) tt te [i]) Γ (.lst ((xs.filter f).map v)) :=
  evo_lc enc xs f v hi (by simpa using hlen) hl fun x hx => ⟨_, evgw_name (SetAt.of (by rw [wipeS_len]; exact hlen)), by
    have e : (wipeS Γ [i]).set i (.dat (enc x)) = Γ.set i (.dat (enc x)) := by show (Γ.set i .un).set i _ = _; rw [List.set_set]
    rw [e]; exact hs x hx⟩
theorem evo_map1 {α : Type} (enc : α → D) (xs : List α) (v : α → D) {i : Nat} (hi : EvI B wi Γ (xs.map enc)) (hlen : i < Γ.length) (hl : xs.length < 16777216)
    (hs : ∀ x ∈ xs, Ev B te (Γ.set i (.dat (enc x))) (v x)) : EvO B (tLc wi (gName i) tYes te [i]) Γ (.lst (xs.map v)) := by
  have := evo_lc1 (tt := tYes) (te := te) enc xs (fun _ => true) v hi hlen hl fun x hx => ⟨evt_yes, fun _ => hs x hx⟩
  rw [List.filter_eq_self.mpr (fun _ _ => rfl)] at this
  exact this
/-- how many -/
theorem ev_lenLc {α : Type} {K : PySem.W.Frag} (hK : K = B.K) (enc : α → D) (xs : List α) (f : α → Bool) (v : α → D) {i : Nat} (hi : EvI B wi Γ (xs.map enc)) (hlen : i < Γ.length) (hl : xs.length < 16777216)
    (hs : ∀ x ∈ xs, EvT B tt (Γ.set i (.dat (enc x))) (f x) ∧ (f x = true → Ev B te (Γ.set i (.dat (enc x))) (v x))) : Ev B (tCB (zLen K) (tCons (tLc wi (gName i) tt te [i]) tNil)) Γ (.int ((xs.filter f).length : Nat)) := by
  subst hK
  have := ev_cb (eva_cons (Ev.of_own (evo_lc1 enc xs f v hi hlen hl hs)) eva_nil) rc_lenL
  rw [List.length_map] at this
  exact this
end
end Z

/-! Z12: try with several except clauses, with names or without. -/
namespace Z
open PySem PySem.Spec PyProof.Rows L2
abbrev Cl := Value × Option Nat × (Addr → Value → Option Addr → TS)
def endA (D : Ends) (i : Nat) : Ends := { nx := fun σ H => D.nx (σ.set i none) H, rt := D.rt, bk := fun σ H => D.bk (σ.set i none) H, ct := fun σ H => D.ct (σ.set i none) H }
def wManyA (K : PySem.W.Frag) (Wout : WX) (D : Ends) : List Cl → WX
  | [] => Wout
  | (c, o, ts) :: r => fun cls d σ H => ∃ b, PySem.W.exmOne K cls c = some b ∧
      (b = true → ∀ a, H a = none → match o with
        | none => ts a cls d D σ H
        | some i => ts a cls d (endA D i) (σ.set i (some (.ref a))) H) ∧ (b = false → wManyA K Wout D r cls d σ H)
abbrev SuiteOk (X : Cx) (ss : List Stmt) (ts : Addr → Value → Option Addr → TS) : Prop := ∀ (a : Addr) (oe : Obj) (cls : Value) (d : Option Addr) (pn : List (Addr × Obj)), Zc cls d oe → (∃ vs, oe.data = .fields vs) → PSs (X.suite a ((a, oe) :: pn)) ss (ts a cls d)
inductive HdsA (X : Cx) : List ExceptHandler → List Cl → Prop
  | nil : HdsA X [] []
  | only {x : Str} {c : Value} {ts : Addr → Value → Option Addr → TS} {b₀ : Stmt} {ss : List Stmt} {np p : Pos} {hds : List ExceptHandler} {l : List Cl} (hc : Names X x c) (hsu : SuiteOk X (b₀ :: ss) ts) (r : HdsA X hds l) :
      HdsA X (.ExceptHandler (some (.Name x np)) none (b₀ :: ss) p :: hds) ((c, none, ts) :: l)
  | named {x n : Str} {i : Nat} {c : Value} {ts : Addr → Value → Option Addr → TS} {b₀ : Stmt} {ss : List Stmt} {np p : Pos} {hds : List ExceptHandler} {l : List Cl} (hN : X.N.Nodup) (hi : X.N[i]? = some n) (hln : X.env.kindOf n = some .local) (hc : Names X x c) (hsu : SuiteOk X (b₀ :: ss) ts) (r : HdsA X hds l) :
      HdsA X (.ExceptHandler (some (.Name x np)) (some n) (b₀ :: ss) p :: hds) ((c, some i, ts) :: l)
section
variable {X : Cx} {body : List Stmt} {h₀ : ExceptHandler} {hds : List ExceptHandler} {l : List Cl} {pos : Pos} {tb : WX → TS} {Wout : WX}
theorem ps_try_manyA (hs : X.stack = X.env :: X.outer) (hf : X.env.frame = some X.env.locals) (tk : Takes X Wout)
    (hb : ∀ (W : WX) (pn : List (Addr × Obj)) (xe : Value → Shared → Prop), Takes (X.tr pn xe) W → PassesOwn (model X.prog X.w) X.A X.env xe → PSs (X.tr pn xe) body (tb W))
    (hh : HdsA X (h₀ :: hds) l) : PS X (.Try body (h₀ :: hds) [] [] pos) (fun D σ H => tb (wManyA X.K Wout D l) D σ H) := by
  refine ⟨fun pins s σ H D I h => wpAny_Try_except ?_⟩
  have ok := I.ok
  have frames : X.A.frames = some (X.env :: X.outer) := ok.frames.trans (congrArg some hs)
  let air : Value → Shared → Prop := fun e s₁ => wpAny (model X.prog X.w) X.A (noteFrame e X.env) (fun _ s₂ => wpAny (model X.prog X.w) X.A (setFlight e none) (fun _ s₃ =>
    wpAny (model X.prog X.w) X.A (handleBy e X.env (h₀ :: hds)) (SP X pins D) X.xe s₃) X.xe s₂) X.xe s₁
  refine wpAny_mono ((hb (wManyA X.K Wout D l) (X.pn ++ pins) air (fun u s' xx => ?_) PassesOwn.looking).run [] s σ H D (I.toTry _) h) (fun f s1 sp => ?_) (fun _ _ z => z)
  · obtain ⟨a, B, sI, q, σ', H', cls, d, rfl, Jt, nb, up, sky, na, os, ag, w⟩ := xx
    have J : Inv X pins σ' H' sI := Jt.ofTry ok
    have sky1 : Sky B (X.env :: X.outer) a (Zc cls d) X.env.locals s'.heap := hs ▸ sky
    refine Sky.land Zc.steady frames hf sky1 fun h3 fl3 up3 => ?_
    have J3 : Inv X pins σ' H' { s' with heap := h3 } := J.landed nb fl3.1 (up.trans up3) os ag
    obtain ⟨oe3, vs3, there3, z3, dat3⟩ := fl3.there
    have out : a ∉ frs (X.env :: X.outer) := fun hm => by
      obtain ⟨_, o', e', nf⟩ := fl3.2.2.1.mem hm
      have eo := there3.symm.trans e'
      cases eo
      exact nf _ dat3
    have nL : a ≠ X.env.locals := fun z => out (List.mem_filterMap.mpr ⟨X.env, List.mem_cons_self, hf.trans (congrArg some z.symm)⟩)
    have nF : a ∉ X.fs := fun hm => by
      obtain ⟨e, he, q⟩ := List.mem_filterMap.mp hm
      exact out (List.mem_filterMap.mpr ⟨e, List.mem_cons_of_mem _ he, q⟩)
    have S3 := J3.suite there3 dat3 na nL nF
    have LT : PySem.W.Looks (model X.prog X.w) h3 (typeOf (.ref a)) cls := fun A Q E s k q => wpAny_typeOf_ref (k _ _ there3) (by rw [z3.1]; exact q)
    have test : ∀ {x : Str} {c : Value} {np : Pos} {Q : Value → Shared → Prop} {E : Value → Shared → Prop}, Names X x c → Q c { s' with heap := h3 } → wpAny (model X.prog X.w) (X.A.mark (some (.ref a))) (eval (.Name x np) X.env) Q E { s' with heap := h3 } := fun {x c np Q E} hc q => by
      rcases hc with ⟨g, dbg, m | ⟨m, bo, nn⟩⟩
      · exact ld_glob (X := X.suite a ((a, oe3) :: (X.pn ++ pins))) S3 g m q dbg
      · exact ld_blt (X := X.suite a ((a, oe3) :: (X.pn ++ pins))) S3 g m bo q nn dbg
    have go : ∀ {hs1 : List ExceptHandler} {l1 : List Cl}, HdsA X hs1 l1 → wManyA X.K Wout D l1 cls d σ' H' → wpAny (model X.prog X.w) X.A (handleBy (.ref a) X.env hs1) (SP X pins D) X.xe { s' with heap := h3 } := by
      intro hs1 l1 hk
      induction hk with
      | nil =>
        intro w
        refine wpAny_handleBy_nil ?_
        obtain ⟨k1, k2, k3, oe, vs, T, oT, ts', he, hz, hd, h1, hr⟩ := id fl3
        unfold PySem.passOn
        refine wpAny_bind (wpAny_field he hd h1 ?_)
        rw [if_neg (show ¬ ((Value.ref T == Value.none) = true) from by simp)]
        have leave : wpAny (model X.prog X.w) X.A (setFlight (.ref a) X.env.frame) (fun _ s4 => wpAny (model X.prog X.w) X.A (throw (.ref a) : Sem Flow) (SP X pins D) X.xe s4) X.xe { s' with heap := h3 } := by
          rw [hf]
          exact HandSPX.setFlight_upZ fl3 fun h4 hh4 up4 => wpAny_throw (tk _ _ ⟨a, B, sI, pins, σ', H', cls, d, rfl, J, nb, (up.trans up3).trans up4, .inr (.inr (hs.symm ▸ hh4)), na, os, ag, w⟩)
        first
          | exact wpAny_bind (wpAny_pure (wpAny_bind leave))
          | exact wpAny_bind leave
      | only hc hsu r ih =>
        rintro ⟨b, hx, yes, no⟩
        refine wpAny_handleBy_cons (codeAny_handlers_test (test hc ((PySem.W.exm_one (M := model X.prog X.w) J3.kIn LT hx).here ?_))) (fun z => nomatch z)
        cases b with
        | false => exact ih (no rfl)
        | true =>
          refine codeAny_handlers_suite (HandSPX.lands_againZ fl3 fun h4 fl4 up4 => ?_)
          have J4 : Inv X pins σ' H' { s' with heap := h4 } := J.landed nb fl4.1 ((up.trans up3).trans up4) os ag
          obtain ⟨oe4, vs4, there4, z4, dat4⟩ := fl4.there
          refine wpAny_mono ((hsu a oe4 cls d (X.pn ++ pins) z4 ⟨_, dat4⟩).run [] _ _ H' _ (J4.suite there4 dat4 na nL nF) (yes rfl a na)) (fun f s6 sp => ?_) (fun _ _ z => z.elim)
          cases f with
          | ret u => obtain ⟨v, _, _, S6, rv, q⟩ := sp; exact ⟨v, _, _, S6.unsuite ok, rv, q⟩
          | next => obtain ⟨_, _, S6, q⟩ := sp; exact ⟨_, _, S6.unsuite ok, q⟩
          | brk => obtain ⟨_, _, S6, q⟩ := sp; exact ⟨_, _, S6.unsuite ok, q⟩
          | cont => obtain ⟨_, _, S6, q⟩ := sp; exact ⟨_, _, S6.unsuite ok, q⟩
      | named hN hi hln hc hsu r ih =>
        rintro ⟨b, hx, yes, no⟩
        refine wpAny_handleBy_cons (codeAny_handlers_test (test hc ((PySem.W.exm_one (M := model X.prog X.w) J3.kIn LT hx).here ?_))) (fun z => nomatch z)
        cases b with
        | false => exact ih (no rfl)
        | true =>
          refine codeAny_handlers_suite_as (HandSPX.lands_againZ fl3 fun h4 fl4 up4 => ?_)
          have J4 : Inv X pins σ' H' { s' with heap := h4 } := J.landed nb fl4.1 ((up.trans up3).trans up4) os ag
          obtain ⟨oe4, vs4, there4, z4, dat4⟩ := fl4.there
          refine store_ok (X := X.suite a ((a, oe4) :: (X.pn ++ pins))) (v := .ref a) (J4.suite there4 dat4 na nL nF) hN hi (.inl hln) rfl (fun s5 S5 => ?_) (.inr hln)
          refine wpAny_mono ((hsu a oe4 cls d (X.pn ++ pins) z4 ⟨_, dat4⟩).run [] s5 _ H' _ S5 (yes rfl a na)) (fun f s6 sp => ?_) (fun _ _ z => z.elim)
          cases f with
          | ret u => obtain ⟨v, _, _, S6, rv, q⟩ := sp; exact gone_ok (S6.unsuite ok) hN hi hln fun s7 J7 => ⟨v, _, _, J7, rv, q⟩
          | next => obtain ⟨_, _, S6, q⟩ := sp; exact gone_ok (S6.unsuite ok) hN hi hln fun s7 J7 => ⟨_, _, J7, q⟩
          | brk => obtain ⟨_, _, S6, q⟩ := sp; exact gone_ok (S6.unsuite ok) hN hi hln fun s7 J7 => ⟨_, _, J7, q⟩
          | cont => obtain ⟨_, _, S6, q⟩ := sp; exact gone_ok (S6.unsuite ok) hN hi hln fun s7 J7 => ⟨_, _, J7, q⟩
    exact go hh w
  · cases f with
    | ret u => obtain ⟨v, _, _, J, rv, q⟩ := sp; exact ⟨v, _, _, J.ofTry ok, rv, q⟩
    | next => obtain ⟨_, _, J, q⟩ := sp; exact wpAny_execs_nil ⟨_, _, J.ofTry ok, q⟩
    | brk => obtain ⟨_, _, J, q⟩ := sp; exact ⟨_, _, J.ofTry ok, q⟩
    | cont => obtain ⟨_, _, J, q⟩ := sp; exact ⟨_, _, J.ofTry ok, q⟩
end
def tTryMany (K : PySem.W.Frag) (l : List Cl) (W : WX) (tb : WX → TS) : TS := fun D σ H => tb (wManyA K W D l) D σ H

/-! by data -/
/-- what the clauses do with an exception x of the body at the slots Γx -/
def Caught (B : Bx) (W : WX) (P : Po) (n : Nat) (x : Xc) (Γx : List Sl) : List Cl → Prop
  | [] => P.xc x Γx
  | (c, o, ts) :: r => (PySem.W.exmOne B.K (.ref x.C) c = some true ∧ (match o with
      | none => ∀ a dd, Sv B W0 (ts a (.ref x.C) dd) Γx { P with xc := fun _ _ => False }
      | some i => i < n ∧ Γx.length = n ∧ x.fs ≠ [] ∧ ∀ a d, Sv B W0 (ts a (.ref x.C) (some d)) (Γx.set i (.dat (.xc a d x.fs))) { P with nx := fun Γ' => Γ'.length = n ∧ P.nx (Γ'.set i .un), bk := fun Γ' => Γ'.length = n ∧ P.bk (Γ'.set i .un), ct := fun Γ' => Γ'.length = n ∧ P.ct (Γ'.set i .un), xc := fun _ _ => False }))
      ∨ (PySem.W.exmOne B.K (.ref x.C) c = some false ∧ Caught B W P n x Γx r)
theorem svt_many {B : Bx} {W : WX} {Γ : List Sl} {P : Po} {l : List Cl} {tb : WX → TS} (n : Nat) (hb : ∀ W', Sv B W' (tb W') Γ { P with xc := fun x Γx => Caught B W P n x Γx l }) : Sv B W (tTryMany B.K l W tb) Γ P := fun D σ G H E S => by
  refine hb (wManyA B.K W D l) D σ G H ⟨E.nx, E.bk, E.ct, E.rt, fun x Γx cls dd σ' G' H' k s S' xo => ?_, E.rm⟩ S
  obtain ⟨rfl, xo⟩ := xo
  clear hb
  induction l with
  | nil => exact E.xc x Γx _ dd σ' G' H' k s S' ⟨rfl, xo⟩
  | cons h r ih =>
    obtain ⟨c, o, ts⟩ := h
    rcases k with ⟨hx, hs⟩ | ⟨hx, hk⟩
    · refine ⟨true, hx, fun _ a ha => ?_, fun z => Bool.noConfusion z⟩
      cases o with
      | none => exact hs a dd D σ' G' H' ⟨fun Γ3 σ3 G3 H3 q s3 => E.nx _ _ G3 H3 q (s.trans s3), fun Γ3 σ3 G3 H3 q s3 => E.bk _ _ G3 H3 q (s.trans s3), fun Γ3 σ3 G3 H3 q s3 => E.ct _ _ G3 H3 q (s.trans s3), E.rt, fun _ _ _ _ _ _ _ z => z.elim, E.rm⟩ S'
      | some i =>
        obtain ⟨hi, hl, hne, hs⟩ := hs
        rcases xo with ⟨h0, _⟩ | ⟨dxa, vs, rfl, hd, rf⟩
        · exact absurd h0 hne
        · refine hs a dxa _ _ G' H' ⟨fun Γ3 σ3 G3 H3 q s3 S3 => ?_, fun Γ3 σ3 G3 H3 q s3 S3 => ?_, fun Γ3 σ3 G3 H3 q s3 S3 => ?_, E.rt, fun _ _ _ _ _ _ _ z => z.elim, E.rm⟩ (S'.set (by rw [hl]; exact hi) (.xc hd rf))
          · exact E.nx _ _ G3 H3 q.2 (s.trans s3) (S3.forget (by rw [q.1]; exact hi))
          · exact E.bk _ _ G3 H3 q.2 (s.trans s3) (S3.forget (by rw [q.1]; exact hi))
          · exact E.ct _ _ G3 H3 q.2 (s.trans s3) (S3.forget (by rw [q.1]; exact hi))
    · exact ⟨false, hx, (fun z => Bool.noConfusion z), fun _ => ih hk⟩
end Z

/-! Z13: defs called within an except suite that let nothing out. -/
namespace Z
open PySem PySem.Spec PyProof.Rows L2 L2H
/-- what a def promises there: an object p is kept aside -/
structure FnS (P : Program) (w : World) (K : PySem.W.Frag) (mg : Str → Option Value) (base : Heap) (k : Nat) (f : Addr) (fd : FuncData) (ps : List Str) (sp : Sp) : Prop where
  len : ∀ vs H Q E, sp vs H Q E → vs.length = ps.length
  run : ∀ (A : Around) (outer : List Env) (s : Shared) (H : Hp) (us : List Value) (vs : List V) (Q : VK) (E : XK) (p : Addr × Obj), RoomH k A → PinOk outer H s p → Env0 P w K mg base A outer s H → BindsTo s fd ⟨us, []⟩ (ps.zip us) → Vals vs us → sp vs H Q E →
    codeAny (model P w) A (.call (.ref f) ⟨us, []⟩) (CR (L2.CX P w) outer P w H s Q E) s
section
variable {P : Program} {w : World} {K : PySem.W.Frag} {mg : Str → Option Value} {base : Heap} {x qual : Str} {params : Arguments} {body : List Stmt} {scope : Scope} {f : Addr} {fd : FuncData} {N ps : List Str} {k : Nat} {sp : Sp}
theorem okS (F : FunD K x qual params body scope [] [] f fd) (S : FnScope N ps scope) (len : ∀ vs H Q E, sp vs H Q E → vs.length = ps.length)
    (hbody : ∀ (cdv : Value) (A : Around) (outer : List Env) (s : Shared) (H : Hp) (vs : List V) (Q : VK) (E : XK) (p : Addr × Obj), RoomH k (A.deeper (envOfC qual scope s.heap.objs.size f cdv)) → sp vs H Q E →
      ∃ t, PSs (cxH (L2.CX P w) P w K mg base N qual scope f cdv A outer s H E p) body t ∧ t { nx := fun _ H' => Q .non H', rt := Q } (L2.start N vs) H) : FnS P w K mg base (k + 1) f fd ps sp := by
  obtain ⟨oc, od, dV, kV, doc, pm, an, cdv, ct, osl, rfl, lk, hcd, _, _⟩ := F.ex
  refine ⟨len, fun A outer s H us vs Q E p hr pin e0 hb r hsp => ?_⟩
  have hkind : ∀ y ∈ ps.zip us, scope.names.lookup y.1 = some .local ∨ (scope.names.lookup y.1 = some .cell ∧ ((cellsFrom (s.heap.objs.size + 1) scope.names []).lookup y.1).isSome = true) := by
    rintro ⟨n, v⟩ hy
    rcases S.par n (List.of_mem_zip hy).1 with q | q
    · exact .inl q
    · exact .inr ⟨q, PySem.W.cellsFrom_some _ _ _ (.inl q)⟩
  have KX : K.In s.heap := e0.mod.kin.keeps fun b o e => (e0.bs b o e).1
  have lim : s.heap.NoLimit := e0.mod.nolimit.keeps fun b o e => (e0.bs b o e).1
  refine codeAny_call_function hr.depth (KX _ _ lk) rfl S.co S.gen rfl (PySem.W.codeRec_of KX hcd) (hb _ _ _ _ (wpAny_newFunctionEnv_cells S.kind hkind fun env he s1 y => ?_))
  subst he
  obtain ⟨t, ht, hq⟩ := hbody cdv A outer s H vs Q E p (hr.deeper _) hsp
  refine ⟨lim.keeps y.toInCall.keep, codeAny_func (wpAny_mono (ht.run [] s1 (L2.start N vs) H _ (inv_startH S pin e0 (len _ _ _ _ hsp) r y) hq) (fun fl s' sp => ?_) fun _ _ z => z)⟩
  cases fl with
  | ret u => obtain ⟨v, _, H', J, rv, q⟩ := sp; exact ⟨v, H', J.os, J.bare, J.base, J.hok, rv, q⟩
  | next => obtain ⟨_, H', J, q⟩ := sp; exact ⟨V.non, H', J.os, J.bare, J.base, J.hok, rfl, q⟩
  | brk => obtain ⟨_, _, _, q⟩ := sp; exact q.elim
  | cont => obtain ⟨_, _, _, q⟩ := sp; exact q.elim
end
/-- such a def with its promise -/
structure Ds (P : Program) (w : World) (K : PySem.W.Frag) (mg : Str → Option Value) (base : Heap) (x : Str) (ps : List Str) (k : Nat) (sp : Sp) : Prop where
  ex : ∃ f fd, FnS P w K mg base k f fd ps sp ∧ mg x = some (.ref f) ∧ PySem.W.keepIn K (.ref f) = true ∧ Binds K fd ps []
theorem roomS {k : Nat} {X : Cx} {a : Addr} {pn : List (Addr × Obj)} (r : Room k X.A) : RoomH k (X.suite a pn).A := ⟨r.dp, r.un⟩
theorem pe_callZS {X : Cx} {a : Addr} {oe : Obj} {pn : List (Addr × Obj)} {x : Str} {ps : List Str} {k : Nat} {sp : Sp} {q pos : Pos} {e : Expr} {es : List Expr} {t : TA} (D : Ds X.prog X.w X.K X.mg X.base x ps k sp) (hr : Room k X.A)
    (ha : PA (X.suite a ((a, oe) :: pn)) (e :: es) t) (hg : Gl (X.suite a ((a, oe) :: pn)) x := by rfl) (hdb : (x == ("__debug__" : Str)) = false := by decide)
    (he : starEach (e :: es) X.env = (false, eval e X.env) :: starEach es X.env := by rfl) (hpl : (backTo pos (starEach es X.env)).any (·.1) = false := by rfl) :
    PE (X.suite a ((a, oe) :: pn)) (.Call (.Name x q) (e :: es) [] pos) (tCallS sp (fun _ => E0) t) := by
  obtain ⟨f, fd, FS, gm, kp, hb⟩ := D.ex
  refine ⟨fun pins s σ H Q I h => wpAny_Call_Name_kw (ld_glob I hg gm ?_ hdb)⟩
  refine PySem.W.callWith_K (h₀ := X.base) I.ok.mod.kin kp (thn (ha.run pos pins s σ H _ I h) fun us s1 ⟨vs, H1, I1, r, k1⟩ => ⟨I1.kIn, ?_⟩) he hpl
  have hl : us.length = ps.length := r.length.symm.trans (FS.len _ _ _ _ k1)
  have b := hb s1 us I1.kIn (by rw [List.append_nil]; exact hl)
  rw [List.append_nil] at b
  have P1 := I1.pin (a, oe) (List.mem_append_left _ List.mem_cons_self)
  have pin : PinOk X.stack H1 s1 (a, oe) := ⟨P1.1, P1.2.1, fun hm => (List.mem_cons.mp (I1.stkSub a hm)).elim P1.2.2.1 P1.2.2.2.1, P1.2.2.2.2⟩
  refine wpAny_call (codeAny_mono (FS.run _ X.stack s1 H1 us vs Q E0 (a, oe) (roomS hr) pin I1.env0 b r k1) fun res s' hq => ?_)
  cases res with
  | error e =>
    obtain ⟨_, _, _, _, _, _, _, _, _, _, _, _, z⟩ := hq
    exact z.elim
  | ok fl =>
    cases fl with
    | ret u => exact I1.after hq
    | next => exact hq.elim
    | brk => exact hq.elim
    | cont => exact hq.elim
end Z

/-! Z14: types of built-ins; list(..), tuple(..), a + b made new. -/
namespace Z
open PySem PySem.Spec PyProof.Rows L2
theorem kit_NoneType_int {K : PySem.W.Frag} : PySem.W.kitOne K (.type "NoneType") (.type "int") = some false := kit_ty (by decide +kernel)
theorem kit_NoneType_bool {K : PySem.W.Frag} : PySem.W.kitOne K (.type "NoneType") (.type "bool") = some false := kit_ty (by decide +kernel)
theorem kit_NoneType_str {K : PySem.W.Frag} : PySem.W.kitOne K (.type "NoneType") (.type "str") = some false := kit_ty (by decide +kernel)
theorem kit_NoneType_list {K : PySem.W.Frag} : PySem.W.kitOne K (.type "NoneType") (.type "list") = some false := kit_ty (by decide +kernel)
theorem kit_NoneType_tuple {K : PySem.W.Frag} : PySem.W.kitOne K (.type "NoneType") (.type "tuple") = some false := kit_ty (by decide +kernel)
theorem kit_bool_int {K : PySem.W.Frag} : PySem.W.kitOne K (.type "bool") (.type "int") = some true := kit_ty (by decide +kernel)
theorem kit_bool_bool {K : PySem.W.Frag} : PySem.W.kitOne K (.type "bool") (.type "bool") = some true := kit_ty (by decide +kernel)
theorem kit_bool_str {K : PySem.W.Frag} : PySem.W.kitOne K (.type "bool") (.type "str") = some false := kit_ty (by decide +kernel)
theorem kit_bool_list {K : PySem.W.Frag} : PySem.W.kitOne K (.type "bool") (.type "list") = some false := kit_ty (by decide +kernel)
theorem kit_bool_tuple {K : PySem.W.Frag} : PySem.W.kitOne K (.type "bool") (.type "tuple") = some false := kit_ty (by decide +kernel)
theorem kit_int_int {K : PySem.W.Frag} : PySem.W.kitOne K (.type "int") (.type "int") = some true := kit_ty (by decide +kernel)
theorem kit_int_bool {K : PySem.W.Frag} : PySem.W.kitOne K (.type "int") (.type "bool") = some false := kit_ty (by decide +kernel)
theorem kit_int_str {K : PySem.W.Frag} : PySem.W.kitOne K (.type "int") (.type "str") = some false := kit_ty (by decide +kernel)
theorem kit_int_list {K : PySem.W.Frag} : PySem.W.kitOne K (.type "int") (.type "list") = some false := kit_ty (by decide +kernel)
theorem kit_int_tuple {K : PySem.W.Frag} : PySem.W.kitOne K (.type "int") (.type "tuple") = some false := kit_ty (by decide +kernel)
theorem kit_str_int {K : PySem.W.Frag} : PySem.W.kitOne K (.type "str") (.type "int") = some false := kit_ty (by decide +kernel)
theorem kit_str_bool {K : PySem.W.Frag} : PySem.W.kitOne K (.type "str") (.type "bool") = some false := kit_ty (by decide +kernel)
theorem kit_str_str {K : PySem.W.Frag} : PySem.W.kitOne K (.type "str") (.type "str") = some true := kit_ty (by decide +kernel)
theorem kit_str_list {K : PySem.W.Frag} : PySem.W.kitOne K (.type "str") (.type "list") = some false := kit_ty (by decide +kernel)
theorem kit_str_tuple {K : PySem.W.Frag} : PySem.W.kitOne K (.type "str") (.type "tuple") = some false := kit_ty (by decide +kernel)
theorem kit_list_int {K : PySem.W.Frag} : PySem.W.kitOne K (.type "list") (.type "int") = some false := kit_ty (by decide +kernel)
theorem kit_list_bool {K : PySem.W.Frag} : PySem.W.kitOne K (.type "list") (.type "bool") = some false := kit_ty (by decide +kernel)
theorem kit_list_str {K : PySem.W.Frag} : PySem.W.kitOne K (.type "list") (.type "str") = some false := kit_ty (by decide +kernel)
theorem kit_list_list {K : PySem.W.Frag} : PySem.W.kitOne K (.type "list") (.type "list") = some true := kit_ty (by decide +kernel)
theorem kit_list_tuple {K : PySem.W.Frag} : PySem.W.kitOne K (.type "list") (.type "tuple") = some false := kit_ty (by decide +kernel)
theorem kit_tuple_int {K : PySem.W.Frag} : PySem.W.kitOne K (.type "tuple") (.type "int") = some false := kit_ty (by decide +kernel)
theorem kit_tuple_bool {K : PySem.W.Frag} : PySem.W.kitOne K (.type "tuple") (.type "bool") = some false := kit_ty (by decide +kernel)
theorem kit_tuple_str {K : PySem.W.Frag} : PySem.W.kitOne K (.type "tuple") (.type "str") = some false := kit_ty (by decide +kernel)
theorem kit_tuple_list {K : PySem.W.Frag} : PySem.W.kitOne K (.type "tuple") (.type "list") = some false := kit_ty (by decide +kernel)
theorem kit_tuple_tuple {K : PySem.W.Frag} : PySem.W.kitOne K (.type "tuple") (.type "tuple") = some true := kit_ty (by decide +kernel)
section
variable {X : Cx}
def zTuple (K : PySem.W.Frag) : List V → Hp → VK → Prop := fun xs H Q => ∃ p ys, xs = [.ref p] ∧ ((SqL K H p ys ∧ ∀ l, H l = none → Q (.ref l) (upd H l (.tup ys))) ∨ (SqT K H p ys ∧ Q (.ref p) H))
theorem call_zTuple : CallR X (.type "tuple") (zTuple X.K) := call_tuple_of
def zList (K : PySem.W.Frag) : List V → Hp → VK → Prop := fun xs H Q => ∃ p ys, xs = [.ref p] ∧ (SqL K H p ys ∨ SqT K H p ys) ∧ ∀ l, H l = none → Q (.ref l) (upd H l (.lst ys))
theorem call_zList : CallR X (.type "list") (zList X.K) := call_list_of
end
section
variable {B : Bx} {Γ : List Sl} {ta tb te : TE} {aa : TA} {as bs ds : List D} {d : D}
theorem rc_tupleL : RC B (zTuple B.K) [.lst as] (.tup as) := fun xs G H Q s r q => by
  cases r with
  | cons r1 r2 =>
    cases r2
    cases r1 with
    | lst h1 r1 => exact ⟨_, _, rfl, .inl ⟨same_l s h1, fun p hp => q _ _ _ (.new s hp) (.tup (.inl (.inl upd_same)) (r1.mono (Fw.new (o := .tup _) s hp).g))⟩⟩
theorem rc_tupleU : RC B (zTuple B.K) [.tup as] (.tup as) := fun xs G H Q s r q => by
  cases r with
  | cons r1 r2 =>
    cases r2
    cases r1 with
    | tup h1 r1 => exact ⟨_, _, rfl, .inr ⟨same_t s h1, q _ G H (.refl s) (.tup h1 r1)⟩⟩
theorem rc_listL : RC B (zList B.K) [.lst as] (.lst as) := fun xs G H Q s r q => by
  cases r with
  | cons r1 r2 =>
    cases r2
    cases r1 with
    | lst h1 r1 => exact ⟨_, _, rfl, .inl (same_l s h1), fun p hp => q _ _ _ (.new s hp) (.lst (.inl (.inl upd_same)) (r1.mono (Fw.new (o := .lst _) s hp).g))⟩
theorem rc_listU : RC B (zList B.K) [.tup as] (.lst as) := fun xs G H Q s r q => by
  cases r with
  | cons r1 r2 =>
    cases r2
    cases r1 with
    | tup h1 r1 => exact ⟨_, _, rfl, .inr (same_t s h1), fun p hp => q _ _ _ (.new s hp) (.lst (.inl (.inl upd_same)) (r1.mono (Fw.new (o := .lst _) s hp).g))⟩
/-- list(a), one's own -/
theorem evo_listL {K : PySem.W.Frag} (hK : K = B.K) (h : EvA B aa Γ [.lst as]) : EvO B (tCB (zList K) aa) Γ (.lst as) := fun σ G H Q S q => by
  subst hK
  refine h σ G H _ S fun vs G1 H1 f r => ?_
  cases r with
  | cons r1 r2 =>
    cases r2
    cases r1 with
    | lst h1 r1 => exact ⟨_, _, rfl, .inl (same_l f.e h1), fun p hp => q p (.lst _) G1 _ (f.trans (Fw.newO f.e hp)) (f.e.free hp) (f.h.free hp) upd_same ⟨_, rfl, r1⟩⟩
theorem evo_listU {K : PySem.W.Frag} (hK : K = B.K) (h : EvA B aa Γ [.tup as]) : EvO B (tCB (zList K) aa) Γ (.lst as) := fun σ G H Q S q => by
  subst hK
  refine h σ G H _ S fun vs G1 H1 f r => ?_
  cases r with
  | cons r1 r2 =>
    cases r2
    cases r1 with
    | tup h1 r1 => exact ⟨_, _, rfl, .inr (same_t f.e h1), fun p hp => q p (.lst _) G1 _ (f.trans (Fw.newO f.e hp)) (f.e.free hp) (f.h.free hp) upd_same ⟨_, rfl, r1⟩⟩
/-- a + b, one's own -/
theorem evo_addL {K : PySem.W.Frag} (hK : K = B.K) (ha : Ev B ta Γ (.lst as)) (hb : Ev B tb Γ (.lst bs)) (hl : as.length + bs.length ≤ 16777216) : EvO B (tOp (zAdd K) ta tb) Γ (.lst (as ++ bs)) := fun σ G H Q S q => by
  subst hK
  refine ha σ G H _ S fun x G1 H1 f1 r1 => hb σ G1 H1 _ (S.step f1) fun y G2 H2 f2 r2 => ?_
  have r1 := r1.mono f2.g
  cases r1 with
  | lst h1 r1 =>
    cases r2 with
    | lst h2 r2 =>
      have f := f1.trans f2
      exact .inr (.inr (.inl ⟨_, _, _, _, rfl, rfl, same_l f2.e h1, same_l f2.e h2, by rw [r1.length, r2.length]; exact line_le hl, fun p hp => q p (.lst _) G2 _ (f.trans (Fw.newO f.e hp)) (f.e.free hp) (f.h.free hp) upd_same ⟨_, rfl, r1.append r2⟩⟩))
end
end Z

/-! Z15: dicts, stores, chains, tests of identity. -/
namespace Z
open PySem PySem.Spec PyProof.Rows L2
def valD (ks : List (Key × D)) (k : Key) : Option D := (ks.find? fun kv => decide (kv.1 = k)).map (·.2)
def putD (ks : List (Key × D)) (k : Key) (d : D) : List (Key × D) :=
  if (ks.any fun kv => decide (kv.1 = k)) = true then ks.map (fun kv => if kv.1 = k then (kv.1, d) else kv) else ks ++ [(k, d)]
def kD : Key → D
  | .inl i => .int i
  | .inr x => .str x
section
variable {K : PySem.W.Frag} {G : Hp}
theorem Rks.length : ∀ {vs : List (Key × V)} {ds : List (Key × D)}, Rks K G vs ds → vs.length = ds.length
  | _, _, .nil => rfl
  | _, _, .cons _ r => congrArg (· + 1) r.length
theorem Rks.val : ∀ {vs : List (Key × V)} {ds : List (Key × D)} {k : Key} {d : D}, Rks K G vs ds → valD ds k = some d → ∃ v, valV vs k = some v ∧ Rp K G v d
  | _, _, _, _, .nil, e => by simp [valD] at e
  | _, _, k, d, .cons (k := j) (d := d0) (ds := ds0) h r, e => by
    by_cases q : j = k
    · subst q
      have : d0 = d := by simpa [valD] using e
      subst this
      exact ⟨_, valV_pos rfl, h⟩
    · have e' : valD ds0 k = some d := by
        have : valD ((j, d0) :: ds0) k = valD ds0 k := by simp [valD, List.find?_cons, q]
        rw [← this]; exact e
      obtain ⟨v, h1, h2⟩ := r.val e'
      exact ⟨v, by rw [valV_neg q]; exact h1, h2⟩
theorem Rks.miss : ∀ {vs : List (Key × V)} {ds : List (Key × D)} {k : Key}, Rks K G vs ds → valD ds k = none → valV vs k = none
  | _, _, _, .nil, _ => rfl
  | _, _, k, .cons (k := j) (d := d0) (ds := ds0) h r, e => by
    by_cases q : j = k
    · subst q; simp [valD] at e
    · have e' : valD ds0 k = none := by
        have : valD ((j, d0) :: ds0) k = valD ds0 k := by simp [valD, List.find?_cons, q]
        rw [← this]; exact e
      rw [valV_neg q]; exact r.miss e'
theorem Rks.any (k : Key) : ∀ {vs : List (Key × V)} {ds : List (Key × D)}, Rks K G vs ds → (vs.any fun kv => decide (kv.1 = k)) = ds.any fun kv => decide (kv.1 = k)
  | _, _, .nil => rfl
  | _, _, .cons _ r => by rw [List.any_cons, List.any_cons, r.any k]
theorem Rks.snoc {k : Key} {v : V} {d : D} (h : Rp K G v d) : ∀ {vs : List (Key × V)} {ds : List (Key × D)}, Rks K G vs ds → Rks K G (vs ++ [(k, v)]) (ds ++ [(k, d)])
  | _, _, .nil => .cons h .nil
  | _, _, .cons q r => .cons q (r.snoc h)
theorem Rks.over {k : Key} {v : V} {d : D} (h : Rp K G v d) : ∀ {vs : List (Key × V)} {ds : List (Key × D)}, Rks K G vs ds → Rks K G (vs.map fun kv => if kv.1 = k then (kv.1, v) else kv) (ds.map fun kv => if kv.1 = k then (kv.1, d) else kv)
  | _, _, .nil => .nil
  | _, _, .cons (k := j) q r => by
    rw [List.map_cons, List.map_cons]
    by_cases e : j = k
    · rw [if_pos e, if_pos e]; exact .cons h (r.over h)
    · rw [if_neg e, if_neg e]; exact .cons q (r.over h)
theorem Rks.put {k : Key} {v : V} {d : D} (h : Rp K G v d) {vs : List (Key × V)} {ds : List (Key × D)} (r : Rks K G vs ds) : Rks K G (putK vs k v) (putD ds k d) := by
  unfold putK putD
  rw [r.any k]
  split
  · exact r.over h
  · exact r.snoc h
theorem rp_key {v : V} {k : Key} (h : Rp K G v (kD k)) : v = kV k := by
  cases k with
  | inl i => cases h; rfl
  | inr x => cases h; rfl
end
theorem valD_put (ks : List (Key × D)) (k j : Key) (d : D) : valD (putD ks k d) j = if j = k then some d else valD ks j := by
  unfold putD
  split
  · rename_i h
    induction ks with
    | nil => simp at h
    | cons p r ih =>
      by_cases q : p.1 = k
      · by_cases e : j = k
        · subst e; simp [valD, q]
        · have : ¬ k = j := fun z => e z.symm
          rw [if_neg e]
          simp only [List.map_cons, if_pos q]
          have e1 : valD ((p.1, d) :: r.map fun kv => if kv.1 = k then (kv.1, d) else kv) j = valD (r.map fun kv => if kv.1 = k then (kv.1, d) else kv) j := by simp [valD, List.find?_cons, q, this]
          have e2 : valD (p :: r) j = valD r j := by simp [valD, List.find?_cons, q, this]
          rw [e1, e2]
          by_cases a : (r.any fun kv => decide (kv.1 = k)) = true
          · have := ih a; rw [if_neg e] at this; exact this
          · have hm : (r.map fun kv => if kv.1 = k then (kv.1, d) else kv) = r := by
              conv => rhs; rw [← List.map_id r]
              refine List.map_congr_left fun x hx => ?_
              have : ¬ x.1 = k := fun z => a (List.any_eq_true.mpr ⟨x, hx, by simpa using z⟩)
              rw [if_neg this]; rfl
            rw [hm]
      · have a : (r.any fun kv => decide (kv.1 = k)) = true := by simpa [q] using h
        simp only [List.map_cons, if_neg q]
        by_cases e3 : p.1 = j
        · have : ¬ j = k := fun z => q (e3.trans z)
          rw [if_neg this]; simp [valD, List.find?_cons, e3]
        · have e1 : valD (p :: r.map fun kv => if kv.1 = k then (kv.1, d) else kv) j = valD (r.map fun kv => if kv.1 = k then (kv.1, d) else kv) j := by simp [valD, List.find?_cons, e3]
          have e2 : valD (p :: r) j = valD r j := by simp [valD, List.find?_cons, e3]
          rw [e1, e2]; exact ih a
  · rename_i h
    have hn : ∀ x ∈ ks, ¬ x.1 = k := fun x hx z => h (List.any_eq_true.mpr ⟨x, hx, by simpa using z⟩)
    by_cases e : j = k
    · subst e
      rw [if_pos rfl]
      unfold valD
      rw [List.find?_append]
      have : ks.find? (fun kv => decide (kv.1 = j)) = none := List.find?_eq_none.mpr fun x hx => by simpa using hn x hx
      rw [this]; simp
    · rw [if_neg e]
      unfold valD
      rw [List.find?_append]
      have : ¬ k = j := fun z => e z.symm
      simp [this]
section
variable {B : Bx} {W : WX} {Γ Γ' : List Sl} {P : Po} {ta tb tc td ty te : TE} {ks : List (Key × D)} {k : Key} {d e : D} {i : Int} {x : Str} {n : Nat} {ds as : List D}
theorem rv_ixD (h : valD ks k = some d) : RV B (zIx B.K) (.dk ks) (kD k) d := fun x y G H Q s rx ry q => by
  have ey := rp_key ry
  subst ey
  cases rx with
  | dk h1 r1 =>
    obtain ⟨v, e, r⟩ := r1.val h
    exact .inr ⟨_, v, rfl, .inl ⟨_, k, same_r s h1, rfl, e.symm⟩, q v G H (.refl s) r⟩
theorem rv_ixDi (h : valD ks (.inl i) = some d) : RV B (zIx B.K) (.dk ks) (.int i) d := rv_ixD (k := .inl i) h
theorem rv_ixDs (h : valD ks (.inr x) = some d) : RV B (zIx B.K) (.dk ks) (.str x) d := rv_ixD (k := .inr x) h
theorem dget_rks {K : PySem.W.Frag} {G : Hp} {kvs : List (Key × V)} (r : Rks K G kvs ks) (k : Key) : (valV kvs k).isSome = (valD ks k).isSome := by
  cases e : valD ks k with
  | none => rw [r.miss e]; rfl
  | some d => obtain ⟨v, h, _⟩ := r.val e; rw [h]; rfl
theorem rv_inD : RV B (zIn B.K false) (kD k) (.dk ks) (.bl (valD ks k).isSome) := fun x y G H Q s rx ry q => by
  have ex := rp_key rx
  subst ex
  cases ry with
  | dk h1 r1 => exact .inr (.inr ⟨_, _, rfl, .inl ⟨_, k, same_r s h1, rfl, rfl⟩, by rw [dget_rks r1 k]; exact q _ G H (.refl s) (.bl _)⟩)
theorem rv_inDi : RV B (zIn B.K false) (.int i) (.dk ks) (.bl (valD ks (.inl i)).isSome) := rv_inD (k := .inl i)
theorem rv_inDs : RV B (zIn B.K false) (.str x) (.dk ks) (.bl (valD ks (.inr x)).isSome) := rv_inD (k := .inr x)
theorem rv_ninD : RV B (zIn B.K true) (kD k) (.dk ks) (.bl (!(valD ks k).isSome)) := fun x y G H Q s rx ry q => by
  have ex := rp_key rx
  subst ex
  cases ry with
  | dk h1 r1 => exact .inr (.inr ⟨_, _, rfl, .inl ⟨_, k, same_r s h1, rfl, rfl⟩, by show Q (.bl (!(valV _ k).isSome)) H; rw [dget_rks r1 k]; exact q _ G H (.refl s) (.bl _)⟩)
theorem rv_ninDi : RV B (zIn B.K true) (.int i) (.dk ks) (.bl (!(valD ks (.inl i)).isSome)) := rv_ninD (k := .inl i)
theorem rv_ninDs : RV B (zIn B.K true) (.str x) (.dk ks) (.bl (!(valD ks (.inr x)).isSome)) := rv_ninD (k := .inr x)
/-- d.get(k, x) -/
theorem ev_dget2 (hd : Ev B td Γ (.dk ks)) (hk : Ev B ty Γ (kD k)) (hx : Ev B te Γ e) : Ev B (tDGet2 td ty te) Γ ((valD ks k).getD e) := fun σ G H Q S q =>
  hd σ G H _ S fun v1 G1 H1 f1 r1 => by
    cases r1 with
    | dk h1 r1 =>
      refine ⟨_, rfl, .inl ⟨_, same_r f1.e h1⟩, hk σ G1 H1 _ (S.step f1) fun v2 G2 H2 f2 r2 => ?_⟩
      refine hx σ G2 H2 _ ((S.step f1).step f2) fun v3 G3 H3 f3 r3 => ?_
      have ey := rp_key r2
      subst ey
      have rr := r1.mono (f2.g.trans f3.g)
      refine ⟨_, .inl ⟨_, k, same_r ((f1.e.trans f2.h).trans f3.h) h1, rfl, rfl⟩, ?_⟩
      cases e1 : valD ks k with
      | none => rw [rr.miss e1]; exact q _ G3 H3 ((f1.trans f2).trans f3) (by rw [e1] at *; exact r3)
      | some d =>
        obtain ⟨v, h, rv⟩ := rr.val e1
        rw [h]; exact q v G3 H3 ((f1.trans f2).trans f3) (by rw [e1] at *; exact rv)
theorem ev_dget2i (hd : Ev B td Γ (.dk ks)) (hk : Ev B ty Γ (.int i)) (hx : Ev B te Γ e) : Ev B (tDGet2 td ty te) Γ ((valD ks (.inl i)).getD e) := ev_dget2 (k := .inl i) hd hk hx
theorem ev_dget2s (hd : Ev B td Γ (.dk ks)) (hk : Ev B ty Γ (.str x)) (hx : Ev B te Γ e) : Ev B (tDGet2 td ty te) Γ ((valD ks (.inr x)).getD e) := ev_dget2 (k := .inr x) hd hk hx
theorem evo_dnew : EvO B tDNewK Γ (.dk []) := fun σ G H Q S q p hp => q p (.dK []) G _ (Fw.newO S.same hp) (S.same.free hp) hp upd_same ⟨[], rfl, .nil⟩
theorem rc_lenD : True := trivial
end

/-! stores -/
theorem PSet.or {X : Cx} {t t' : V → V → V → Hp → (Hp → Prop) → Prop} (h : PSet X t) (h' : PSet X t') : PSet X (fun o i v H Q => t o i v H Q ∨ t' o i v H Q) := by
  intro pins s σ H o i v ov iv u Q I ro ri rv q
  rcases q with q | q
  · exact h pins s σ H o i v ov iv u Q I ro ri rv q
  · exact h' pins s σ H o i v ov iv u Q I ro ri rv q
def zSet : V → V → V → Hp → (Hp → Prop) → Prop := fun o i v H Q => rSetL o i v H Q ∨ rSetD o i v H Q
theorem set_z {X : Cx} (hu : X.A.units + 64 < cLine) : PSet X zSet := PSet.or set_list (set_dict (hu1 hu))
section
variable {B : Bx} {W : WX} {Γ Γ' : List Sl} {P : Po} {ti te : TE} {ks : List (Key × D)} {k : Key} {d : D} {i : Int} {n j : Nat} {ds : List D} {x : Str}
/-- xs[i] = e, xs one's own -/
theorem sv_stL (hn : Γ[n]? = some (.own (.lst ds))) (he : Ev B te Γ d) (hi : Ev B ti Γ (.int i)) (hj : ixN ds.length i = some j) (hs : SetAt Γ n (.own (.lst (ds.set j d))) Γ') (k : P.nx Γ') : Sv B W (tAsg te (gSub (tVar n) ti zSet)) Γ P := fun D σ G H E S =>
  he σ G H _ S fun v G1 H1 f1 r1 => by
    have S1 := S.step f1
    obtain ⟨a, u, e, g, hh, ⟨xs, hu, r⟩, h0⟩ := S1.own hn
    subst hu
    refine ⟨.ref a, e, hi σ G1 H1 _ S1 fun y G2 H2 f2 r2 => ?_⟩
    cases r2
    refine .inl ⟨a, xs, i, j, rfl, rfl, f2.h _ _ hh, by rw [r.length]; exact hj, ?_⟩
    obtain ⟨_, rfl⟩ := hs.eq
    exact E.nx _ _ G2 _ k (f1.trans f2).g ((S1.step f2).mut hn e ⟨_, rfl, (r.mono f2.g).set (r1.mono f2.g) j⟩)
/-- d[k] = e, d one's own -/
theorem sv_stD (hn : Γ[n]? = some (.own (.dk ks))) (he : Ev B te Γ d) (hi : Ev B ti Γ (kD k)) (hl : ks.length < 16777216) (hs : SetAt Γ n (.own (.dk (putD ks k d))) Γ') (kk : P.nx Γ') : Sv B W (tAsg te (gSub (tVar n) ti zSet)) Γ P := fun D σ G H E S =>
  he σ G H _ S fun v G1 H1 f1 r1 => by
    have S1 := S.step f1
    obtain ⟨a, u, e, g, hh, ⟨xs, hu, r⟩, h0⟩ := S1.own hn
    subst hu
    refine ⟨.ref a, e, hi σ G1 H1 _ S1 fun y G2 H2 f2 r2 => ?_⟩
    have ey := rp_key r2
    subst ey
    refine .inr ⟨a, _, rfl, .inl ⟨xs, k, f2.h _ _ hh, rfl, by rw [r.length]; exact line_lt hl, rfl⟩, ?_⟩
    obtain ⟨_, rfl⟩ := hs.eq
    exact E.nx _ _ G2 _ kk (f1.trans f2).g ((S1.step f2).mut hn e ⟨_, rfl, (r.mono f2.g).put (r1.mono f2.g)⟩)
theorem sv_stDi (hn : Γ[n]? = some (.own (.dk ks))) (he : Ev B te Γ d) (hi : Ev B ti Γ (.int i)) (hl : ks.length < 16777216) (hs : SetAt Γ n (.own (.dk (putD ks (.inl i) d))) Γ') (kk : P.nx Γ') : Sv B W (tAsg te (gSub (tVar n) ti zSet)) Γ P := sv_stD (k := .inl i) hn he hi hl hs kk
theorem sv_stDs (hn : Γ[n]? = some (.own (.dk ks))) (he : Ev B te Γ d) (hi : Ev B ti Γ (.str x)) (hl : ks.length < 16777216) (hs : SetAt Γ n (.own (.dk (putD ks (.inr x) d))) Γ') (kk : P.nx Γ') : Sv B W (tAsg te (gSub (tVar n) ti zSet)) Γ P := sv_stD (k := .inr x) hn he hi hl hs kk
end
end Z

/-! Z16: classes of the text: making, fields. -/
namespace Z
open PySem PySem.Spec PyProof.Rows L2
/-- what an __init__ promises: H0 is the heap ahead of the new object -/
def spI (K : PySem.W.Frag) (C : Addr) (F : Fn) : Sp := fun vs H Q E => ∃ (H0 G : Hp) (a dx : Addr) (vs' : List V) (ds : List D) (R : Sl → Prop) (X : Xc → Prop), vs = .ref a :: vs' ∧ Same H0 H ∧ H0 a = none ∧ H a = some (.ins C dx []) ∧ Same G H0 ∧ Rps K G vs' ds ∧ F ds R X ∧
  (∀ fs G' H' u, R (.own (.ins C fs none)) → Fw G H0 G' H' → G' a = none → H' a = some u → OwOk K G' a (.ins C fs none) u → Q .non H') ∧
  (∀ x cls dd G' H', X x → Fw G H0 G' H' → XOk K G' x cls dd → E cls dd H')
theorem spI_len {K : PySem.W.Frag} {C : Addr} {F : Fn} {n : Nat} (h : ∀ ds R X, F ds R X → ds.length = n) (vs : List V) (H : Hp) (Q : VK) (E : XK) (s : spI K C F vs H Q E) : vs.length = n + 1 := by
  obtain ⟨H0, G, a, dx, vs', ds, R, X, rfl, _, _, _, _, r, f, _⟩ := s
  rw [List.length_cons, r.length, h ds R X f]
structure Dc (P : Program) (w : World) (K : PySem.W.Frag) (mg : Str → Option Value) (base : Heap) (x : Str) (C : Addr) (ps : List Str) (k : Nat) (sp : Sp) : Prop where
  gm : mg x = some (.ref C)
  ex : ∃ f fd, Mk K C f ∧ FnOk P w K mg base (L2.CX P w) k f fd ps sp ∧ Binds K fd ps []
def tMkZ (C : Addr) (sp : Sp) (E : L2.St → XK) (t : TA) : TE := fun σ H Q => t σ H fun vs H1 => ∀ x dx, H1 x = none → H1 dx = none → dx ≠ x →
  sp (.ref x :: vs) (upd (upd H1 dx (.own x)) x (.ins C dx [])) (fun v H2 => v = .non ∧ Q (.ref x) H2) (E σ)
section
variable {X : Cx} {W : WX} {x : Str} {C : Addr} {ps : List Str} {k : Nat} {sp : Sp} {p pos : Pos} {e : Expr} {es : List Expr} {t : TA}
theorem pe_mkZ (D : Dc X.prog X.w X.K X.mg X.base x C ps k sp) (hr : Room (k + 1) X.A) (tk : Takes X W) (ha : PA X (e :: es) t) (hg : Gl X x := by rfl) (hdb : (x == ("__debug__" : Str)) = false := by decide)
    (he : starEach (e :: es) X.env = (false, eval e X.env) :: starEach es X.env := by rfl) (hpl : (backTo pos (starEach es X.env)).any (·.1) = false := by rfl) :
    PE X (.Call (.Name x p) (e :: es) [] pos) (tMkZ C sp (WE W) t) := by
  obtain ⟨f, fd, M, FO, hb⟩ := D.ex
  refine ⟨fun pins s0 σ H0 Q I0 h0 => wpAny_Call_Name_kw (ld_glob I0 hg D.gm ?_ hdb)⟩
  refine PySem.W.callWith_K (h₀ := X.base) I0.ok.mod.kin M.kp (thn (ha.run pos pins s0 σ H0 _ I0 h0) fun us s ⟨vs, H, I, r, h⟩ => ⟨I.kIn, ?_⟩) he hpl
  have hq := h (s.heap.objs.size + 1) s.heap.objs.size (I.hok.fresh (Nat.le_succ _)) (I.hok.fresh (Nat.le_refl _)) (Nat.ne_of_lt (Nat.lt_succ_self _))
  have I2 := Inv.made (C := C) I
  have r2 : Vals (V.ref (s.heap.objs.size + 1) :: vs) (Value.ref (s.heap.objs.size + 1) :: us) := .cons rfl r
  have hl : (Value.ref (s.heap.objs.size + 1) :: us ++ []).length = ps.length := by
    rw [List.append_nil]
    exact r2.length.symm.trans (FO.len _ _ _ _ hq)
  have b := hb _ (Value.ref (s.heap.objs.size + 1) :: us) I2.kIn hl
  rw [List.append_nil] at b
  refine wpAny_call (make_map (f := f) I.kIn M.makes M.init (beq_iff_eq.mp M.fn) (codeAny_mono (FO.run _ X.stack _ _ ⟨Value.ref (s.heap.objs.size + 1) :: us, []⟩ (Value.ref (s.heap.objs.size + 1) :: us) _ _ (WE W σ) (hr.make C us [])
    (I2.env0.make C us []) b r2 hq) fun res s' hq' => ?_))
  cases res with
  | error e => exact passAt tk σ pins _ _ e s' I2 hq'
  | ok fl =>
    cases fl with
    | ret u =>
      obtain ⟨v, H', I3, rv, ev, q3⟩ := I2.after hq'
      subst ev
      exact ⟨rv, ⟨V.ref (s.heap.objs.size + 1), H', I3, rfl, q3⟩⟩
    | next => exact hq'.elim
    | brk => exact hq'.elim
    | cont => exact hq'.elim
end
section
variable {B : Bx} {W : WX} {Γ Γ' : List Sl} {P : Po} {aa : TA} {te : TE} {ds : List D} {d : D} {C : Addr} {F : Fn} {E : L2.St → XK} {fs : List (Str × D)} {f : Str} {n : Nat} {oa : Option Addr} {x : Xc}
theorem made_fw {G H1 : Hp} {a dx : Addr} {u1 u2 : HO} (h1 : H1 a = none) (h2 : H1 dx = none) : Same H1 (upd (upd H1 dx u1) a u2) := fun b o q => by
  rw [upd_ne (ne_of_none q h1), upd_ne (ne_of_none q h2)]; exact q
theorem evo_mk (ha : EvA B aa Γ ds) (hF : F ds (fun s => s = .own (.ins C fs none)) (fun _ => False)) : EvO B (tMkZ C (spI B.K C F) E aa) Γ (.ins C fs none) := fun σ G H Q S q =>
  ha σ G H _ S fun vs G1 H1 f1 r1 => fun a dx na ndx ne => ⟨H1, G1, a, dx, vs, ds, _, _, rfl, made_fw (G := G1) na ndx, na, upd_same, f1.e, r1, hF, fun fs' G' H' u hs f' ga ha' ow => by
    cases hs
    exact ⟨rfl, q a u G' H' (f1.trans f') ga (f1.h.free na) ha' ow⟩, fun _ _ _ _ _ z => z.elim⟩
theorem evx_mk (ha : EvA B aa Γ ds) (hF : F ds (fun _ => False) (fun y => y = x)) : EvX B W (tMkZ C (spI B.K C F) (WE W) aa) Γ x := fun σ G H Q S q =>
  ha σ G H _ S fun vs G1 H1 f1 r1 => fun a dx na ndx ne => ⟨H1, G1, a, dx, vs, ds, _, _, rfl, made_fw (G := G1) na ndx, na, upd_same, f1.e, r1, hF, fun _ _ _ _ z => z.elim, fun y cls dd G' H' hy f' xo => by
    subst hy; exact q cls dd G' H' (f1.trans f') xo⟩
/-! fields -/
def putFD (f : Str) (d : D) : List (Str × D) → List (Str × D)
  | [] => [(f, d)]
  | (g, x) :: r => if g = f then (g, d) :: r else (g, x) :: putFD f d r
theorem Rfs.put {K : PySem.W.Frag} {G : Hp} {v : V} (h : Rp K G v d) : ∀ {xs : List (Str × V)} {fs : List (Str × D)}, Rfs K G xs fs → Rfs K G (putF f v xs) (putFD f d fs)
  | _, _, .nil => .cons h .nil
  | _, _, .cons (f := g) q r => by
    unfold putF putFD
    by_cases e : g = f
    · rw [if_pos e, if_pos e]; exact .cons h r
    · rw [if_neg e, if_neg e]; exact .cons q (r.put h)
/-- self.f = e -/
theorem sv_fld (hn : Γ[n]? = some (.own (.ins C fs oa))) (c : Cls B.K C) (na : NoAttr B.K C f) (he : Ev B te Γ d) (hl : fs.length < 1000) (hs : SetAt Γ n (.own (.ins C (putFD f d fs) oa)) Γ') (k : P.nx Γ') : Sv B W (sFld B.K (tVar n) te f) Γ P := fun D σ G H E S =>
  he σ G H _ S fun v G1 H1 f1 r1 => by
    have S1 := S.step f1
    obtain ⟨a, u, e, g, hh, ⟨ha, dx, xs, hu, r⟩, h0⟩ := S1.own hn
    subst hu
    refine ⟨.ref a, e, a, C, dx, xs, rfl, hh, c, na, by rw [r.length]; exact hl, ?_⟩
    obtain ⟨_, rfl⟩ := hs.eq
    exact E.nx _ _ G1 _ k f1.g (S1.mut hn e ⟨ha, dx, _, rfl, r.put r1⟩)
/-- e.f of data -/
theorem ev_fld (h : Ev B te Γ (.obj C fs)) (c : Cls B.K C) (na : NoAttr B.K C f) (hl : fs.lookup f = some d) : Ev B (tFld B.K te f) Γ d := fun σ G H Q S q =>
  h σ G H _ S fun v G1 H1 f1 r1 => by
    cases r1 with
    | obj h1 r1 =>
      obtain ⟨v, e, r⟩ := r1.lookup hl
      exact ⟨_, C, _, _, v, rfl, f1.e _ _ h1, c, na, e, q v G1 H1 f1 r⟩
/-- self.f of one's own -/
theorem ev_fldO (hn : Γ[n]? = some (.own (.ins C fs oa))) (c : Cls B.K C) (na : NoAttr B.K C f) (hl : fs.lookup f = some d) : Ev B (tFld B.K (tVar n) f) Γ d := fun σ G H Q S q => by
  obtain ⟨a, u, e, g, hh, ⟨ha, dx, xs, hu, r⟩, h0⟩ := S.own hn
  subst hu
  obtain ⟨v, e2, r2⟩ := r.lookup hl
  exact ⟨.ref a, e, a, C, dx, xs, v, rfl, hh, c, na, e2, q v G H (.refl S.same) r2⟩
end
/-! __init__'s body -/
def iniI (N : List Str) (C a : Addr) (ds : List D) : List Sl := .own (.ins C [] (some a)) :: ini N.tail ds
theorem stt_startI {K : PySem.W.Frag} {G H0 H : Hp} {N : List Str} {C a dx : Addr} {vs : List V} {ds : List D} (hN : 0 < N.length) (s0 : Same H0 H) (n0 : H0 a = none) (ha : H a = some (.ins C dx [])) (s : Same G H0) (r : Rps K G vs ds) :
    Stt ⟨K, G, H0, NoF⟩ (iniI N C a ds) (L2.start N (.ref a :: vs)) G H := by
  obtain ⟨n, N', rfl⟩ : ∃ n N', N = n :: N' := by cases N with
    | nil => simp at hN
    | cons n N' => exact ⟨n, N', rfl⟩
  have T : Stt ⟨K, G, H, NoF⟩ (ini N' ds) (L2.start N' vs) G H := stt_start (s.trans s0) r
  have e1 : L2.start (n :: N') (.ref a :: vs) = some (.ref a) :: L2.start N' vs := by simp [L2.start]
  have hno := ini_own N' ds
  have hnm := ini_mem N' ds
  have ow : ∀ (i : Nat) (b : Addr), Owns (iniI (n :: N') C a ds) (some (.ref a) :: L2.start N' vs) i b → i = 0 ∧ b = a := fun i b h => by
    cases i with
    | zero =>
      rcases h with ⟨o, _, h2⟩ | ⟨M, w, h1, _⟩
      · have q : some (some (V.ref a)) = some (some (.ref b)) := h2
        cases q; exact ⟨rfl, rfl⟩
      · have q : some (Sl.own (.ins C [] (some a))) = some (.mem M) := h1
        cases q
    | succ i =>
      rcases h with ⟨o, h1, _⟩ | ⟨M, w, h1, _⟩
      · exact absurd h1 (hno i o)
      · exact absurd h1 (hnm i M)
  rw [e1]
  refine ⟨.of ⟨Same.refl _, s0, s.trans s0, fun b o q m => by have m : G b = none := m; rw [m] at q; cases q⟩, by unfold iniI; rw [List.length_cons, List.length_cons, T.len]; rfl, fun i sl h => ?_, fun i j b h1 h2 => (ow i b h1).1.trans (ow j b h2).1.symm, fun i o b h1 h2 => ?_, fun i M b w h1 h2 => ?_⟩
  · cases i with
    | zero =>
      have e : sl = .own (.ins C [] (some a)) := (Option.some.inj h).symm
      subst e
      exact ⟨a, _, rfl, s.free n0, ha, fun b e => (Option.some.inj e).symm, dx, [], rfl, .nil⟩
    | succ i => exact T.sl i sl h
  · have := (ow i b (.inl ⟨o, h1, h2⟩)).2
    subst this
    exact n0
  · have := (ow i b (.inr ⟨M, w, h1, h2⟩)).2
    subst this
    exact .inl n0
theorem sv_init {K : PySem.W.Frag} {C : Addr} {F : Fn} {N : List Str} {t : TS} {vs : List V} {H : Hp} {Q : VK} {E : XK} (hN : 0 < N.length) (h : spI K C F vs H Q E)
    (hb : ∀ H0 G a ds R X, F ds R X → Sv ⟨K, G, H0, NoF⟩ (fun cls d _ H' => E cls d H') t (iniI N C a ds) { nx := fun Γ => ∃ fs, Γ[0]? = some (.own (.ins C fs (some a))) ∧ R (.own (.ins C fs none)), rt := fun _ => False, xc := fun x _ => X x }) :
    t { nx := fun _ H' => Q .non H', rt := Q } (L2.start N vs) H := by
  obtain ⟨H0, G, a, dx, vs', ds, R, X, rfl, s0, n0, ha, s, r, f, q, qe⟩ := h
  refine hb H0 G a ds R X f _ (L2.start N (.ref a :: vs')) G H ⟨fun Γ σ G' H' h _ S => ?_, fun _ _ _ _ z => z.elim, fun _ _ _ _ z => z.elim, fun s v G' H' z => z.elim, fun x Γ cls dd σ G' H' h _ S xo => qe x cls dd G' H' h (S.fw.fw fun _ z => z) xo, fun _ _ _ _ _ _ _ _ z => z.elim⟩ (stt_startI hN s0 n0 ha s r)
  obtain ⟨fs, h1, hR⟩ := h
  obtain ⟨b, u, e, g, hh, ⟨hab, dx', xs, hu, rr⟩, h0⟩ := S.own h1
  have e2 := hab a rfl
  subst e2
  exact q fs G' H' u hR (S.fw.fw fun _ z => z) g hh ⟨(fun _ z => nomatch z), dx', xs, hu, rr⟩
end Z

/-! Z17: dicts of the module with text keys; the Hook with them. -/
namespace Z
open PySem PySem.Spec PyProof.Rows L2
abbrev TabZ : Type := Str × List Str
abbrev AlZ : Type := He.AlD × List (Option (List (Option (Str × Int))))
def obsW (ts : List (PySem.W.Frag → Bool)) (fn : List He.DefD) (tb : List TabZ) (K : PySem.W.Frag) : AlZ := (obsZ ts fn K, tb.map fun t => He.dicW K (He.ga K t.1))
def valW (fn : List He.DefD) (tb : List TabZ) (w : World) : AlZ := (He.valD fn, tb.map fun t => some (He.keysIn w.params t.2))
def SaysW (ts : List (PySem.W.Frag → Bool)) (fn : List He.DefD) (tb : List TabZ) (w : World) (K : PySem.W.Frag) : Prop := obsW ts fn tb K = valW fn tb w
def obsWG (n : Nat) (ts : List (PySem.W.Frag → Bool)) (fn : List He.DefD) (tb : List TabZ) (g : Addr → Option Obj) : AlZ := obsW ts fn tb (He.frG g (He.asD g n))
def hookW (n : Nat) (ts : List (PySem.W.Frag → Bool)) (fn : List He.DefD) (tb : List TabZ) : PySem.W.Hook where
  α := AlZ
  obs := fun s => obsWG n ts fn tb s.heap.get?
  val := fun w => valW fn tb w
  says := fun w h => ∃ K : PySem.W.Frag, K.In h ∧ SaysW ts fn tb w K
  of := fun _ _ e => ⟨_, He.frG_in, e⟩
  keeps := fun _ _ _ ⟨K, hK, c⟩ k => ⟨K, PySem.W.Frag.In.keeps hK k, c⟩
theorem obsWG_eq {n : Nat} {ts : List (PySem.W.Frag → Bool)} {fn : List He.DefD} {tb : List TabZ} {g : Addr → Option Obj} {s : Shared} (h : ∀ a, g a = s.heap.get? a) : obsWG n ts fn tb g = (hookW n ts fn tb).obs s := by
  have e : g = s.heap.get? := funext h
  rw [e] <;> rfl
section
variable {ts : List (PySem.W.Frag → Bool)} {fn : List He.DefD} {tb : List TabZ} {w : World} {K : PySem.W.Frag}
theorem SaysW.z (c : SaysW ts fn tb w K) : SaysZ ts fn K := congrArg (fun z : AlZ => z.1) c
theorem SaysW.tab (c : SaysW ts fn tb w K) (i : Nat) {t : TabZ} (h : tb[i]? = some t := by rfl) : ∃ es n, KDict K w (He.ga K t.1) es n := by
  have e : (tb.map fun t => He.dicW K (He.ga K t.1)) = tb.map fun t => some (He.keysIn w.params t.2) := congrArg (fun z : AlZ => z.2) c
  have e2 : (tb.map fun t => He.dicW K (He.ga K t.1))[i]? = (tb.map fun t => some (He.keysIn w.params t.2))[i]? := by rw [e]
  rw [List.getElem?_map, List.getElem?_map, h] at e2
  exact He.dicW_ok (Option.some.inj e2)
end
/-! ### such a dict, read -/
def rKIx (K : PySem.W.Frag) (a : Addr) : R2 := fun x y H Q => ∃ (z : Str) (u : Value) (v : V), x = .ref a ∧ y = .str z ∧ PySem.W.nsIn K a z = some (some u) ∧ RelV v u ∧ Q v H
def rKIn (K : PySem.W.Frag) (a : Addr) (neg : Bool) : R2 := fun x y H Q => ∃ (z : Str) (r : Option Value), x = .str z ∧ y = .ref a ∧ PySem.W.nsIn K a z = some r ∧ Q (.bl (if neg then !r.isSome else r.isSome)) H
section
variable {X : Cx} {a : Addr}
theorem ix_K (D : ∃ es n, KDict X.K X.w a es n) : IxR X (rKIx X.K a) := by
  intro value slice pins s σ H x y v u Q I rx ry h hs
  obtain ⟨es, n, D⟩ := D
  obtain ⟨z, u0, v0, rfl, rfl, e, r, q⟩ := h
  have T := kd_type D I
  have rx0 := rx
  cases rx
  exact tail_any (T := "dict") (ops := [.ref a, u]) T PySem.F.slot_dict_getitem.lookup (op_item_kd D pins s σ H (.ref a) (.str z) _ u Q I rx0 ry ⟨z, u0, v0, rfl, rfl, e, r, q⟩) hs
theorem op_KIn (D : ∃ es n, KDict X.K X.w a es n) : OpR X (compareOp .In) (rKIn X.K a false) := by
  intro pins s σ H x y v u Q I rx ry h
  obtain ⟨es, n, D⟩ := D
  obtain ⟨z, r, rfl, rfl, e, q⟩ := h
  exact op_in_kd D pins s σ H _ _ v u Q I rx ry ⟨z, r, rfl, rfl, e, q⟩
theorem op_KNotIn (D : ∃ es n, KDict X.K X.w a es n) : OpR X (compareOp .NotIn) (rKIn X.K a true) := by
  intro pins s σ H x y v u Q I rx ry h
  obtain ⟨es, n, D⟩ := D
  obtain ⟨z, r, rfl, rfl, e, q⟩ := h
  exact op_notIn_kd D pins s σ H _ _ v u Q I rx ry ⟨z, r, rfl, rfl, e, q⟩
end
section
variable {B : Bx} {a : Addr} {z : Str} {d : D}
/-- what stands under a key: one value for all -/
def KVal (K : PySem.W.Frag) (a : Addr) (z : Str) (v : V) : Prop := ∃ u, PySem.W.nsIn K a z = some (some u) ∧ RelV v u
theorem rv_KIx {v : V} (h : KVal B.K a z v) (r : ∀ G, Rp B.K G v d) : RV B (rKIx B.K a) (.ref a) (.str z) d := fun x y G H Q s rx ry q => by
  cases rx; cases ry
  obtain ⟨u, e, ru⟩ := h
  exact ⟨z, u, v, rfl, rfl, e, ru, q v G H (.refl s) (r G)⟩
theorem rv_KInY {v : V} (h : KVal B.K a z v) : RV B (rKIn B.K a false) (.str z) (.ref a) (.bl true) := fun x y G H Q s rx ry q => by
  cases rx; cases ry
  obtain ⟨u, e, ru⟩ := h
  exact ⟨z, _, rfl, rfl, e, q _ G H (.refl s) (.bl _)⟩
theorem rv_KNotInY {v : V} (h : KVal B.K a z v) : RV B (rKIn B.K a true) (.str z) (.ref a) (.bl false) := fun x y G H Q s rx ry q => by
  cases rx; cases ry
  obtain ⟨u, e, ru⟩ := h
  exact ⟨z, _, rfl, rfl, e, q _ G H (.refl s) (.bl _)⟩
theorem rv_KNotInN (h : PySem.W.nsIn B.K a z = some none) : RV B (rKIn B.K a true) (.str z) (.ref a) (.bl true) := fun x y G H Q s rx ry q => by
  cases rx; cases ry
  exact ⟨z, _, rfl, rfl, h, q _ G H (.refl s) (.bl _)⟩
theorem rv_KInN (h : PySem.W.nsIn B.K a z = some none) : RV B (rKIn B.K a false) (.str z) (.ref a) (.bl false) := fun x y G H Q s rx ry q => by
  cases rx; cases ry
  exact ⟨z, _, rfl, rfl, h, q _ G H (.refl s) (.bl _)⟩
end
def kvalB (K : PySem.W.Frag) (x : Str) (k : Str) (v : He.Dv) : Bool := He.valsB K (He.ga K x) [(k, v)]
theorem kvalB_ok {K : PySem.W.Frag} {x k : Str} {v : He.Dv} (h : kvalB K x k v = true) : KVal K (He.ga K x) k (v.v K) := He.valsB_ok h (q := (k, v)) List.mem_cons_self
end Z

/-! Z18: identity with booleans, chains, isinstance with several, lists of ints searched. -/
namespace Z
open PySem PySem.Spec PyProof.Rows L2
def zIsB : R2 := fun x y H Q => ∃ b : Bool, y = .bl b ∧ Q (.bl (decide (x = .bl b))) H
def zNotB : R2 := fun x y H Q => ∃ b : Bool, y = .bl b ∧ Q (.bl (!decide (x = .bl b))) H
section
variable {X : Cx}
theorem relv_bool {x : V} {b : Bool} (h : RelV x (Value.bool b)) : x = .bl b := by
  cases x <;> first
    | (cases h; rfl)
    | (obtain ⟨t, h⟩ := h; cases h)
    | (cases h)
theorem op_zIsB : OpR X (compareOp .Is) zIsB := by
  intro pins s σ H x y v u Q I rx ry h
  obtain ⟨b, rfl, q⟩ := h
  cases (show u = Value.bool b from ry)
  by_cases e : x = .bl b
  · subst e
    cases (show v = Value.bool b from rx)
    exact wpAny_is_self rfl ⟨.bl true, H, I, rfl, by simpa using q⟩
  · refine wpAny_is_other ?_ (fun z => e (relv_bool (z ▸ rx))) ⟨.bl false, H, I, rfl, by simpa [e] using q⟩
    cases x <;> first
      | (cases rx; rfl)
      | (obtain ⟨t, rfl⟩ := rx; rfl)
theorem op_zNotB : OpR X (compareOp .IsNot) zNotB := by
  intro pins s σ H x y v u Q I rx ry h
  obtain ⟨b, rfl, q⟩ := h
  cases (show u = Value.bool b from ry)
  by_cases e : x = .bl b
  · subst e
    cases (show v = Value.bool b from rx)
    exact wpAny_isNot_self rfl ⟨.bl false, H, I, rfl, by simpa using q⟩
  · refine wpAny_isNot_other ?_ (fun z => e (relv_bool (z ▸ rx))) ⟨.bl true, H, I, rfl, by simpa [e] using q⟩
    cases x <;> first
      | (cases rx; rfl)
      | (obtain ⟨t, rfl⟩ := rx; rfl)
end
def D.isBl (b : Bool) : D → Bool
  | .bl c => c == b
  | _ => false
section
variable {B : Bx} {Γ : List Sl} {ta tb tc : TE} {a b c d : D} {r r' : R2} {p q : Bool} {i : Int} {ns : List Int}
theorem rp_bl {K : PySem.W.Frag} {G : Hp} {v : V} (r : Rp K G v d) : decide (v = .bl p) = d.isBl p := by
  cases r <;> first
    | rfl
    | (rename_i c; show decide (V.bl c = V.bl p) = (c == p); rw [dec_bl])
theorem rv_isB : RV B zIsB d (.bl p) (.bl (d.isBl p)) := fun x y G H Q s rx ry q => by
  cases ry; refine ⟨p, rfl, ?_⟩; rw [rp_bl rx]; exact q _ G H (.refl s) (.bl _)
theorem rv_notB : RV B zNotB d (.bl p) (.bl (!d.isBl p)) := fun x y G H Q s rx ry q => by
  cases ry; refine ⟨p, rfl, ?_⟩; rw [rp_bl rx]; exact q _ G H (.refl s) (.bl _)
/-- a r b r' c -/
theorem ev_chain (ha : Ev B ta Γ a) (hb : Ev B tb Γ b) (hr : RV B r a b (.bl p)) (hc : p = true → Ev B tc Γ c) (hr' : p = true → RV B r' b c (.bl q)) : Ev B (tChain r r' ta tb tc) Γ (.bl (p && q)) := fun σ G H Q S k =>
  ha σ G H _ S fun x G1 H1 f1 r1 => hb σ G1 H1 _ (S.step f1) fun y G2 H2 f2 r2 => hr x y G2 H2 _ f2.e (r1.mono f2.g) r2 fun v G3 H3 f3 r3 => by
    cases r3
    refine ⟨p, rfl, ?_⟩
    have f123 := (f1.trans f2).trans f3
    cases p with
    | false => exact k _ G3 H3 f123 (.bl false)
    | true => exact hc rfl σ G3 H3 _ (S.step f123) fun z G4 H4 f4 r4 => hr' rfl y z G4 H4 Q f4.e (r2.mono (f3.g.trans f4.g)) r4 fun v G5 H5 f5 r5 => k v G5 H5 ((f123.trans f4).trans f5) r5
end
/-! isinstance(x, (c, d)) -/
section
variable {X : Cx}
def zIsi2 (K : PySem.W.Frag) : List V → Hp → VK → Prop := fun xs H Q => rIsi K xs H Q ∨ rIsiT K xs H Q
theorem call_zIsi2 : CallR X (.builtin "isinstance") (zIsi2 X.K) := CallR.or call_isi call_isiT
end
section
variable {B : Bx} {Γ : List Sl} {ta : TE} {d : D} {t : Value} {p : Bool} {Ts : List String}
theorem ev_tys {aa : TA} : ∀ {Ts : List String}, True := fun {_} => trivial
/-- the classes, laid as a tuple -/
theorem ev_isiT {tx tu : TE} {S T : String} (hx : Ev B tx Γ d) (ht : d.tyv = some t) (hk : PySem.W.kitAny B.K t [.type S, .type T] = some p) :
    Ev B (tCB (zIsi2 B.K) (tCons tx (tCons (tTup (tCons (tC (.ty S)) (tCons (tC (.ty T)) tNil))) tNil))) Γ (.bl p) := fun σ G H Q Sx q =>
  hx σ G H _ Sx fun x G1 H1 f1 r1 => ⟨by show 2 ≤ sizeLine; decide, fun a na => .inr ⟨x, a, [.ty S, .ty T], t, [.type S, .type T], p, rfl, upd_same, .cons (.ty S) (.cons (.ty T) .nil), r1.tyx (f1.e.trans (Fw.newO (o := .tup [.ty S, .ty T]) f1.e na).h) ht, hk, q (.bl p) G1 _ (f1.trans (Fw.newO f1.e na)) (.bl p)⟩⟩
end
end Z

/-! Z19: set(xs), xs a list of ints; sorted of it. -/
namespace Z
open PySem PySem.Spec PyProof.Rows L2
/-- a new set, empty -/
def set0 (w : World) : Obj := { cls := .type "set", dict := none, data := .set #[] 0 (.fresh 0 0 (!w.params.followText "set-order")) }
section
variable {P : Program} {w : World} {A : Around} {E : Value → Shared → Prop} {s : Shared}
theorem call_setL {l : Addr} {items : Array Value} (ns : List Int) {Q : Value → Shared → Prop} (hh : A.handled = none) (hl : s.heap.IsList l items) (hit : IntsAre items.toList ns) (hb : ns.length + 1 < scanBound)
    (h : ∀ (h' : Heap) (tk c : Nat), SetR w h' s.heap.objs.size (fun j => decide (j ∈ ns)) c → c ≤ ns.length → (∀ b o, s.heap.get? b = some o → h'.get? b = some o) → Q (.ref s.heap.objs.size) { s with heap := h', toks := tk }) :
    wpAny (model P w) A (call (.type "set") [.ref l]) Q E s := by
  have many : items.size = ns.length := by have q := IntsAre.length hit; rw [Array.length_toList] at q; exact q
  obtain ⟨c, tl, hmro⟩ := F.called_set.mro
  have hmade := F.called_set.made
  have hsub := F.called_set.sub
  refine wpAny_call (codeAny_of_tree (wpAny_pure ⟨Code.quiet_builtin _ (by decide +kernel), codeAny_builtin PySem.F.entry_type_call ?_⟩))
  rw [Around.under_plain (weight_type_call_type "set" [.ref l] []) rfl]
  have h1 := F.called_set.notType
  have h2 := F.called_set.canCreate
  have hct := F.typeCall_set_1 (.ref l)
  repeat (any_goals (first | assumption | wp_step))
  refine codeAny_mono (code_set_led1 (w := w) (.ref l) (E := E) (Q₁ := fun obj s₁ => obj = .ref s.heap.objs.size ∧ s₁ = { s with heap := s.heap.push (set0 w) }) ⟨rfl, rfl⟩) fun r s₁ hr => ?_
  cases r with
  | error e => exact hr
  | ok fl =>
    cases fl with
    | next => exact hr.elim
    | brk => exact hr.elim
    | cont => exact hr.elim
    | ret obj =>
      obtain ⟨rfl, rfl⟩ := hr
      have hS : (s.heap.push (set0 w)).get? s.heap.objs.size = some (set0 w) := Heap.get?_push_size _ rfl
      have hT : Shared.TypeIs { s with heap := s.heap.push (set0 w) } (.ref s.heap.objs.size) "set" := ⟨_, hS, rfl⟩
      have hli := F.called_set.init.lookup
      have hbi := F.called_set.init.bind (.ref s.heap.objs.size)
      repeat (any_goals (first | assumption | wp_step))
      let End : Value → Shared → Prop := fun r s₂ => r = .none ∧ ∃ h' tk c, s₂ = { s with heap := h', toks := tk } ∧ SetR w h' s.heap.objs.size (fun j => decide (j ∈ ns)) c ∧ c ≤ ns.length ∧ ∀ b o, s.heap.get? b = some o → h'.get? b = some o
      refine codeAny_mono (codeAny_call_builtin (R := wants End E) F.called_set.init.plain F.entry_set_init (check_set_init_1 hT ?_)) fun r₂ s₂ hr₂ => ?_
      · obtain ⟨ol, hol, hcl, nl, hdl⟩ := hl
        obtain ⟨ocls, odict, odata, oslots⟩ := ol
        simp only at hcl hdl
        subst hcl hdl
        have hol' : (s.heap.push (set0 w)).get? l = some { cls := .type "list", dict := odict, data := .seq items nl, slots := oslots } := Heap.get?_push_of_some _ hol
        have hsls := F.sub_list_set
        have hslf := F.sub_list_frozenset
        have hne : (Value.type "list" == Value.type "dict") = false := by decide
        have hl1 : (s.heap.push (set0 w)).IsList l items := ⟨_, hol', rfl, nl, rfl⟩
        unfold Builtin.«set.__init__» noKeywords Builtin.Frozenset.updateFrom
        generalize hPI : pyIter = PI
        wp_walk
        subst hPI
        refine wpAny_pyIter_list hl1 (wpAny_bind (wpAny_runValue ?_))
        have sz : (s.heap.push (set0 w)).objs.size = s.heap.objs.size + 1 := Heap.size_push ..
        have lS : l < s.heap.objs.size := Heap.lt_size hol
        have far : l ≠ (s.heap.push (set0 w)).objs.size := by rw [sz]; exact Nat.ne_of_lt (Nat.lt_succ_of_lt lS)
        have out : s.heap.objs.size ∉ [(s.heap.push (set0 w)).objs.size, l] := by
          rw [sz]; simp only [List.mem_cons, List.not_mem_nil, or_false, not_or]; exact ⟨Nat.ne_of_lt (Nat.lt_succ_self _), Nat.ne_of_gt lS⟩
        have val : ∀ (i : Nat) (v : Value), items[i]? = some v → ∃ k t, ns[i]? = some k ∧ v = .int k t := fun i v hv => by
          have hi : i < ns.length := by rw [← many]; exact (Array.getElem?_eq_some_iff.mp hv).1
          obtain ⟨t, e⟩ := PyProof.Rows.IntsAre.int_at hit i v (by rw [Array.getElem?_toList]; exact hv)
          exact ⟨ns[i], t, List.getElem?_eq_getElem hi, by rw [e, List.getD_eq_getElem?_getD, List.getElem?_eq_getElem hi]; rfl⟩
        refine set_update_ints ((Walks.list (show A.in1.in1.in1.handled = none by simp [hh]) _ l far items).toS) s.heap.objs.size out ns many hb val (items.size - 0) 0 _ (by omega) (Nat.zero_le _)
          ⟨⟨_, Heap.get?_push_size _ rfl, rfl, rfl⟩, hl1.push _⟩ ⟨0, Nat.le_refl 0, setR_new_at (Heap.get?_push_of_some _ hS)⟩ fun s' c' hm hc' hS' => ?_
        obtain ⟨h', g2, d', tk', os'⟩ := s'
        obtain rfl : g2 = s.gens := hm.gens
        obtain rfl : d' = s.drawn := hm.drawn
        obtain rfl : os' = s.os := hm.os
        rw [many] at hc'
        refine wpAny_pure (wpAny_pure ⟨rfl, h', tk', c', rfl, hS', hc', fun b o e => ?_⟩)
        have b0 : b < s.heap.objs.size := Heap.lt_size e
        exact hm.heap b o (by rw [sz]; simp only [List.mem_cons, List.not_mem_nil, or_false, not_or]; exact ⟨Nat.ne_of_lt b0, Nat.ne_of_lt (Nat.lt_succ_of_lt b0)⟩) (Heap.get?_push_of_some _ (Heap.get?_push_of_some _ e))
      · cases r₂ with
        | error e => exact hr₂
        | ok fl₂ =>
          cases fl₂ with
          | next => exact hr₂.elim
          | brk => exact hr₂.elim
          | cont => exact hr₂.elim
          | ret r =>
            obtain ⟨rfl, h', tk, c', rfl, hS', hc', hk'⟩ := hr₂
            repeat (any_goals (first | assumption | wp_step))
            exact h _ _ _ hS' hc' hk'
end
section
variable {X : Cx}
/-- set(xs) -/
def rSetL1 (K : PySem.W.Frag) (w : World) : List V → Hp → VK → Prop := fun xs H Q => ∃ (l : Addr) (ns : List Int), xs = [.ref l] ∧ SqL K H l (ns.map V.int) ∧ ns.length < 60 ∧
  ∀ (a : Addr) (c : Nat), H a = none → c ≤ ns.length → Q (.ref a) (upd H a (SetO w a (fun j => decide (j ∈ ns)) c))
theorem cr_setL1 (hc : X.calm = true) : CallR X (.type "set") (rSetL1 X.K X.w) := by
  intro pins s σ H xs us Q I r h
  obtain ⟨l, ns, rfl, hl, hf, q⟩ := h
  rw [Vals.ref1 r]
  obtain ⟨its, rv, pl, hz⟩ := I.list hl
  exact call_setL (P := X.prog) (w := X.w) ns (I.ok.hd hc) pl.isList (by simpa using ints_of_vals rv) (by unfold scanBound; omega) fun h' tk c R hc k =>
    ⟨.ref s.heap.objs.size, _, I.laid (t' := tk) k (Nat.le_refl _) (setO_new R), rfl, q _ c (I.hok.fresh (Nat.le_refl _)) hc⟩
end
theorem lt_ext : ∀ {a b : List Int}, a.Pairwise (· < ·) → b.Pairwise (· < ·) → (∀ k, k ∈ a ↔ k ∈ b) → a = b
  | [], [], _, _, _ => rfl
  | [], y :: b, _, _, h => absurd ((h y).mpr List.mem_cons_self) (by simp)
  | x :: a, [], _, _, h => absurd ((h x).mp List.mem_cons_self) (by simp)
  | x :: a, y :: b, ha, hb, h => by
    obtain ⟨a1, a2⟩ := List.pairwise_cons.mp ha
    obtain ⟨b1, b2⟩ := List.pairwise_cons.mp hb
    have e : x = y := by
      rcases List.mem_cons.mp ((h x).mp List.mem_cons_self) with q | q
      · exact q
      · rcases List.mem_cons.mp ((h y).mpr List.mem_cons_self) with r | r
        · exact r.symm
        · have := a1 y r; have := b1 x q; omega
    subst e
    congr 1
    refine lt_ext a2 b2 fun k => ⟨fun hk => ?_, fun hk => ?_⟩
    · rcases List.mem_cons.mp ((h k).mp (List.mem_cons_of_mem _ hk)) with q | q
      · subst q; have := a1 k hk; omega
      · exact q
    · rcases List.mem_cons.mp ((h k).mpr (List.mem_cons_of_mem _ hk)) with q | q
      · subst q; have := b1 k hk; omega
      · exact q
section
variable {B : Bx} {Γ : List Sl} {te : TE} {ns ms : List Int} {w : World}
/-- sorted(set(xs)): ms -/
theorem ev_sortset {K : PySem.W.Frag} (hK : K = B.K) (h : Ev B te Γ (.lst (ns.map .int))) (hl : ns.length < 60) (h1 : ms.Pairwise (· < ·)) (h2 : ∀ k, k ∈ ms ↔ k ∈ ns) : Ev B (tCB (rSortedSet w) (tCons (tCB (rSetL1 K w) (tCons te tNil)) tNil)) Γ (.lst (ms.map .int)) := fun σ G H Q S q => by
  subst hK
  refine h σ G H _ S fun v G1 H1 f r => ?_
  cases r with
  | lst hh r1 =>
    have e := rps_ints_inv r1
    subst e
    refine ⟨_, ns, rfl, same_l f.e hh, hl, fun a c na hc => ⟨a, _, c, rfl, upd_same, by omega, fun ks p kp km kl np => ?_⟩⟩
    have e2 : ks = ms := lt_ext kp h1 fun k => by rw [km k, h2 k]; simp
    subst e2
    have fa : Fw G1 H1 G1 (upd H1 a (SetO w a (fun j => decide (j ∈ ns)) c)) := Fw.newO f.e na
    exact q _ _ _ ((f.trans fa).trans (Fw.new fa.e np)) (.lst (.inl (.inl upd_same)) (rps_ints ks))
end
end Z

/-! Z20: more methods and built-ins. -/
namespace Z
open PySem PySem.Spec PyProof.Rows L2
def rFindT : V → List V → Hp → VK → Prop := fun x xs H Q => ∃ a b, x = .str a ∧ xs = [.str b] ∧ Q (.int (Txt.find a b)) H
theorem mt_zFindT {X : Cx} : MtR X "str.find" rFindT := mt_find
def rSplitT : V → List V → Hp → VK → Prop := fun x xs H Q => ∃ a b, x = .str a ∧ xs = [.str b] ∧ (b.length == 0) = false ∧ a.length + 2 ≤ sizeLine ∧ rNewStrs (Txt.split a b) H Q
theorem mt_zSplitT {X : Cx} : MtR X "str.split" rSplitT := mt_split
def zAll (K : PySem.W.Frag) : List V → Hp → VK → Prop := rAll K
theorem call_zAll {X : Cx} (hc : X.calm = true) : CallR X (.builtin "all") (zAll X.K) := cr_all hc
def zSum (K : PySem.W.Frag) : List V → Hp → VK → Prop := rSum K
theorem call_zSum {X : Cx} (hc : X.calm = true) : CallR X (.builtin "sum") (zSum X.K) := cr_sum hc
def zMaxL (K : PySem.W.Frag) : List V → Hp → VK → Prop := rMax K
theorem call_zMaxL {X : Cx} (hc : X.calm = true) : CallR X (.builtin "max") (zMaxL X.K) := cr_max hc
def rSortedDI : List V → Hp → VK → Prop := fun xs H Q => ∃ (a : Addr) (kvs : List (Key × V)) (ks : List Int), xs = [.ref a] ∧ Rd H a (.dK kvs) ∧ kvs.map (·.1) = ks.map Sum.inl ∧ ks.length < 64 ∧ ∀ (ys : List Int) (p : Addr), ys.Perm ks → ys.Pairwise (· ≤ ·) → H p = none → Q (.ref p) (upd H p (.lst (ys.map V.int)))
def zSorted (K : PySem.W.Frag) : List V → Hp → VK → Prop := fun xs H Q => rSorted K xs H Q ∨ rSortedDI xs H Q
theorem call_zSorted {X : Cx} (hc : X.calm = true) : CallR X (.builtin "sorted") (zSorted X.K) := CallR.or cr_sorted (call_sortedDI hc)
section
variable {B : Bx} {bs : List Bool} {ns : List Int} {m : Int} {a b : List Nat}
theorem rps_bls_inv {K : PySem.W.Frag} {G : Hp} : ∀ {vs : List V} {xs : List Bool}, Rps K G vs (xs.map D.bl) → vs = xs.map V.bl
  | _, [], h => by cases h; rfl
  | _, n :: r, h => by
    cases h with
    | cons h q =>
      cases h
      rw [rps_bls_inv q] <;> rfl
theorem rc_all : RC B (zAll B.K) [.lst (bs.map .bl)] (.bl (bs.all id)) := fun xs G H Q s r q => by
  cases r with
  | cons r1 r2 =>
    cases r2
    cases r1 with
    | lst h1 r1 =>
      have e := rps_bls_inv r1
      subst e
      exact ⟨_, bs, rfl, same_l s h1, q _ G H (.refl s) (.bl _)⟩
theorem rc_sum : RC B (zSum B.K) [.lst (ns.map .int)] (.int ns.sum) := fun xs G H Q s r q => by
  cases r with
  | cons r1 r2 =>
    cases r2
    cases r1 with
    | lst h1 r1 =>
      have e := rps_ints_inv r1
      subst e
      exact ⟨_, ns, rfl, same_l s h1, q _ G H (.refl s) (.int _)⟩
theorem rc_maxL (hm : m ∈ ns) (hle : ∀ y ∈ ns, y ≤ m) : RC B (zMaxL B.K) [.lst (ns.map .int)] (.int m) := fun xs G H Q s r q => by
  cases r with
  | cons r1 r2 =>
    cases r2
    cases r1 with
    | lst h1 r1 =>
      have e := rps_ints_inv r1
      subst e
      refine ⟨_, ns, rfl, same_l s h1, List.length_pos_of_mem hm, fun k hk hk2 => ?_⟩
      have e2 : k = m := Int.le_antisymm (hle k hk) (hk2 m hm)
      subst e2
      exact q _ G H (.refl s) (.int _)
theorem rm_find : RM B rFindT (.str (tx a)) [.str (tx b)] (.int (Txt.find (tx a) (tx b))) := fun x xs G H Q s r rs q => by
  cases r
  cases rs with
  | cons r1 r2 => cases r1; cases r2; exact ⟨_, _, rfl, rfl, q _ G H (.refl s) (.int _)⟩
end
end Z

/-! Z21: a name set to a dict comprehension. -/
namespace Z
open PySem PySem.Spec PyProof.Rows L2
section
variable {X : Cx}
theorem ps_setDc {i : Nat} {y : Str} {py : Pos} {kx vx tg iter : Expr} {ifs : List Expr} {scope : Scope} {own : List (Str × Nat)} {pos spos : Pos} {wi : TI} {g : TG} {tt : TT} {tk tv : TE} (hc : X.calm = true) (hN : X.N.Nodup) (hy : X.N[i]? = some y) (hyl : X.env.scope.names.lookup y = some .local)
    (hsw : swapsWith (.DictComp kx vx [⟨tg, iter, ifs, 0⟩] scope pos) (some (.Name y py)) spos.line X.env = pure true) (hi : PI X tg iter wi) (ok : BlkOk X.N X.env.scope scope own)
    (hg : ∀ (s : Shared) (H : Hp) (C : Addr) (cl : List (Str × Addr)) (fp : List Addr), PG (X.blk s H scope (compEnvC scope cl C X.env) fp) tg g) (ht : ∀ (s : Shared) (H : Hp) (C : Addr) (cl : List (Str × Addr)) (fp : List Addr), PTs (X.blk s H scope (compEnvC scope cl C X.env) fp) ifs tt)
    (hk : ∀ (s : Shared) (H : Hp) (C : Addr) (cl : List (Str × Addr)) (fp : List Addr), PE (X.blk s H scope (compEnvC scope cl C X.env) fp) kx tk)
    (he : ∀ (s : Shared) (H : Hp) (C : Addr) (cl : List (Str × Addr)) (fp : List Addr), PE (X.blk s H scope (compEnvC scope cl C X.env) fp) vx tv) (hs : ∀ x, foldedSetIterable iter X.env x = pure x := by intro _; rfl) :
    PS X (.Assign [.Name y py] (.DictComp kx vx [⟨tg, iter, ifs, 0⟩] scope pos) spos) (tAsg (tDc wi g tt tk tv (own.map (·.2))) (gName i)) := by
  refine ⟨fun pins s σ H D I h => ?_⟩
  rw [exec_Assign_Name_used _ _ _ _ hsw]
  refine wpAny_bind (wpAny_standAt (wpAny_bind ?_))
  have h : tDc wi g tt tk tv (own.map (·.2)) σ H (fun x H1 => gName i x σ H1 D.nx) := h
  refine wpAny_bind (thn (dc_core (use := some (assign (.Name y py) X.env)) (Qf := fun _ s' => SP X pins D .next s') hc hN I hi ok hg ht hk he hs h fun L C s' m H' I' q hn f => ?_) fun _ s' hq => wpAny_pure (wpAny_pure hq))
  show wpAny _ _ (assign (.Name y py) X.env (.ref L)) _ _ _
  refine wpAny_assign_Name (store_ok2 (v := V.ref L) I' hN hy (.inl hyl) rfl (fun s2 I2 ⟨a, sb, ha⟩ => ?_) (.inr hyl))
  obtain ⟨f0, f1, f2, f3, f4, f5⟩ := f
  have off : C ≠ a := by
    rcases ha with z | z
    · rw [z]; exact f1
    · exact fun e => f4 y a z e.symm
  exact ⟨m, hn.sameBut sb off, fun h3 sb3 => ⟨_, H', I2.turned (t' := s2.toks) (fun b o hb e => (sb3.2 b hb).trans e) f0 f1 f3 f4 f5, q⟩⟩
theorem swD_true {kx vx : Expr} {gs : List Comprehension} {scope : Scope} {pos py : Pos} {y : Str} {l : Nat} {env : Env} (hk : env.scope.kind = .function) (hy : env.scope.names.lookup y = some .local) (hl : (py.line == pos.line) = true)
    (ha : (scope.names.any fun (n, k) => n == y && (k == .local || k == .cell)) = false) : swapsWith (.DictComp kx vx gs scope pos) (some (.Name y py)) l env = pure true := by
  have ky : env.kindOf y = some .local := hy
  have kb : env.blockKind = .function := by unfold Env.blockKind; rw [hk]; rfl
  unfold swapsWith
  simp only [kb, ky, ha, Expr.pos, hl]
  rfl
end
end Z

/-! Z22: memory: objects of one's own by their addresses. -/
namespace Z
open PySem PySem.Spec PyProof.Rows L2
def ups (M : Mem) (a : Addr) (w : Ow) : Mem := fun b => if b = a then some w else M b
def mem0 : Mem := fun _ => none
theorem ups_same {M : Mem} {a : Addr} {w : Ow} : ups M a w a = some w := if_pos rfl
theorem ups_ne {M : Mem} {a b : Addr} {w : Ow} (h : b ≠ a) : ups M a w b = M b := if_neg h
theorem ups_ups {M : Mem} {a : Addr} {w w' : Ow} : ups (ups M a w) a w' = ups M a w' := by
  funext b
  by_cases e : b = a
  · subst e; rw [ups_same, ups_same]
  · rw [ups_ne e, ups_ne e, ups_ne e]
theorem mem_ne {M : Mem} {a b : Addr} {w : Ow} (h : M a = some w) (n : M b = none) : a ≠ b := fun e => by subst e; rw [h] at n; cases n
theorem ups_get {M : Mem} {a b : Addr} {w u : Ow} (h : M a = some w) (n : M b = none) : ups M b u a = some w := by rw [ups_ne (mem_ne h n)]; exact h
section
variable {K : PySem.W.Frag} {B : Bx} {W : WX} {Γ Γ' : List Sl} {P : Po} {σ σ' : L2.St} {G G' H H' : Hp} {M N M' : Mem} {i j m : Nat} {a : Addr} {w w' : Ow} {d e : D} {ds as : List D} {ks : List (Key × D)} {k : Key}
theorem Stt.memMut {u' : HO} (S : Stt B Γ σ G H) (hi : Γ[i]? = some (.mem M)) (ha : M a = some w) (r : OwOk B.K G a w' u') : Stt B (Γ.set i (.mem (ups M a w'))) σ G (upd H a u') := by
  have hil : i < Γ.length := (List.getElem?_eq_some_iff.mp hi).1
  have oi : Owns Γ σ i a := .inr ⟨M, w, hi, ha⟩
  obtain ⟨hg, ⟨u, hh⟩, h0⟩ := S.owned oi
  have key : ∀ (j : Nat) (c : Addr), Owns (Γ.set i (.mem (ups M a w'))) σ j c → Owns Γ σ j c := fun j c h => by
    by_cases e : j = i
    · subst e
      unfold Owns at h
      rw [List.getElem?_set_self hil] at h
      rcases h with ⟨o, h1, _⟩ | ⟨M2, w2, h1, h2⟩
      · cases h1
      · cases h1
        by_cases z : c = a
        · subst z; exact oi
        · rw [ups_ne z] at h2; exact .inr ⟨M, w2, hi, h2⟩
    · exact owns_neΓ e h
  refine ⟨S.frame hg h0, by simp [S.len], fun j s h => ?_, fun j k b h1 h2 => S.ap j k b (key j b h1) (key k b h2), fun j o b h1 h2 => ?_, fun j M2 b w2 h1 h2 => ?_⟩
  · by_cases e : j = i
    · subst e
      rw [List.getElem?_set_self hil] at h
      cases h
      intro b w2 hb
      by_cases z : b = a
      · subst z
        rw [ups_same] at hb
        cases hb
        exact ⟨hg, u', upd_same, r⟩
      · rw [ups_ne z] at hb
        obtain ⟨g2, u2, z2, r2⟩ := S.mem hi b w2 hb
        exact ⟨g2, u2, by rw [upd_ne z]; exact z2, r2⟩
    · rw [List.getElem?_set_ne (Ne.symm e)] at h
      exact S.keepSl h fun q => e (S.ap j i a q oi)
  · by_cases e : j = i
    · subst e; rw [List.getElem?_set_self hil] at h1; cases h1
    · rw [List.getElem?_set_ne (Ne.symm e)] at h1; exact S.nw j o b h1 h2
  · by_cases e : j = i
    · subst e
      rw [List.getElem?_set_self hil] at h1
      cases h1
      by_cases z : b = a
      · subst z; exact h0
      · rw [ups_ne z] at h2; exact S.nm j M b w2 hi h2
    · rw [List.getElem?_set_ne (Ne.symm e)] at h1; exact S.nm j M2 b w2 h1 h2
theorem Stt.memNew {u : HO} (S : Stt B Γ σ G H) (hi : Γ[i]? = some (.mem M)) (n : H a = none) (r : OwOk B.K G a w u) : Stt B (Γ.set i (.mem (ups M a w))) σ G (upd H a u) := by
  have hil : i < Γ.length := (List.getElem?_eq_some_iff.mp hi).1
  have hg := S.same.free n
  have no := S.apart n
  have key : ∀ (j : Nat) (c : Addr), Owns (Γ.set i (.mem (ups M a w))) σ j c → (c = a ∧ j = i) ∨ Owns Γ σ j c := fun j c h => by
    by_cases e : j = i
    · subst e
      unfold Owns at h
      rw [List.getElem?_set_self hil] at h
      rcases h with ⟨o, h1, _⟩ | ⟨M2, w2, h1, h2⟩
      · cases h1
      · cases h1
        by_cases z : c = a
        · exact .inl ⟨z, rfl⟩
        · rw [ups_ne z] at h2; exact .inr (.inr ⟨M, w2, hi, h2⟩)
    · exact .inr (owns_neΓ e h)
  refine ⟨S.frame hg (.inl (S.fr n)), by simp [S.len], fun j s h => ?_, fun j k b h1 h2 => ?_, fun j o b h1 h2 => ?_, fun j M2 b w2 h1 h2 => ?_⟩
  · by_cases e : j = i
    · subst e
      rw [List.getElem?_set_self hil] at h
      cases h
      intro b w2 hb
      by_cases z : b = a
      · subst z
        rw [ups_same] at hb
        cases hb
        exact ⟨hg, u, upd_same, r⟩
      · rw [ups_ne z] at hb
        obtain ⟨g2, u2, z2, r2⟩ := S.mem hi b w2 hb
        exact ⟨g2, u2, by rw [upd_ne z]; exact z2, r2⟩
    · rw [List.getElem?_set_ne (Ne.symm e)] at h
      exact S.keepSl h (no j)
  · rcases key j b h1 with ⟨rfl, rfl⟩ | q1
    · rcases key k b h2 with ⟨_, rfl⟩ | q2
      · rfl
      · exact absurd q2 (no k)
    · rcases key k b h2 with ⟨rfl, rfl⟩ | q2
      · exact absurd q1 (no j)
      · exact S.ap j k b q1 q2
  · by_cases e : j = i
    · subst e; rw [List.getElem?_set_self hil] at h1; cases h1
    · rw [List.getElem?_set_ne (Ne.symm e)] at h1; exact S.nw j o b h1 h2
  · by_cases e : j = i
    · subst e
      rw [List.getElem?_set_self hil] at h1
      cases h1
      by_cases z : b = a
      · subst z; exact .inl (S.fr n)
      · rw [ups_ne z] at h2; exact S.nm j M b w2 hi h2
    · rw [List.getElem?_set_ne (Ne.symm e)] at h1; exact S.nm j M2 b w2 h1 h2
/-- an empty memory is begun -/
theorem Stt.mem0 (S : Stt B Γ σ G H) (hi : i < Γ.length) : Stt B (Γ.set i (.mem Z.mem0)) σ G H := by
  have key : ∀ (j : Nat) (c : Addr), Owns (Γ.set i (.mem Z.mem0)) σ j c → Owns Γ σ j c ∧ j ≠ i := fun j c h => by
    by_cases e : j = i
    · subst e
      unfold Owns at h
      rw [List.getElem?_set_self hi] at h
      rcases h with ⟨o, h1, _⟩ | ⟨M2, w2, h1, h2⟩
      · cases h1
      · cases h1; cases h2
    · exact ⟨owns_neΓ e h, e⟩
  refine ⟨S.fw, by simp [S.len], fun j s h => ?_, fun j k b h1 h2 => S.ap j k b (key j b h1).1 (key k b h2).1, fun j o b h1 h2 => ?_, fun j M2 b w2 h1 h2 => ?_⟩
  · by_cases e : j = i
    · subst e
      rw [List.getElem?_set_self hi] at h
      cases h
      exact fun b w2 hb => nomatch hb
    · rw [List.getElem?_set_ne (Ne.symm e)] at h
      exact S.sl j s h
  · by_cases e : j = i
    · subst e; rw [List.getElem?_set_self hi] at h1; cases h1
    · rw [List.getElem?_set_ne (Ne.symm e)] at h1; exact S.nw j o b h1 h2
  · by_cases e : j = i
    · subst e; rw [List.getElem?_set_self hi] at h1; cases h1; cases h2
    · rw [List.getElem?_set_ne (Ne.symm e)] at h1; exact S.nm j M2 b w2 h1 h2
theorem sv_mem0 {t : TS} (i : Nat) (hs : SetAt Γ i (.mem mem0) Γ') (h : Sv B W t Γ' P) : Sv B W t Γ P := fun D σ G H E S => by
  obtain ⟨hi, rfl⟩ := hs.eq
  exact h D σ G H E (S.mem0 hi)

/-! ### what may change memory -/
def EvE (B : Bx) (W : WX) (te : TE) (Γ : List Sl) (k : D → List Sl → Prop) (kx : Xc → List Sl → Prop) : Prop := ∀ σ G H Q, Stt B Γ σ G H →
  (∀ v d Γ' G' H', k d Γ' → Same G G' → Stt B Γ' σ G' H' → Rp B.K G' v d → Q v H') → (∀ x cls dd Γ' G' H', kx x Γ' → Same G G' → Stt B Γ' σ G' H' → XOk B.K G' x cls dd → W cls dd σ H') → te σ H Q
def EvAE (B : Bx) (W : WX) (ta : TA) (Γ : List Sl) (k : List D → List Sl → Prop) (kx : Xc → List Sl → Prop) : Prop := ∀ σ G H Q, Stt B Γ σ G H →
  (∀ vs ds Γ' G' H', k ds Γ' → Same G G' → Stt B Γ' σ G' H' → Rps B.K G' vs ds → Q vs H') → (∀ x cls dd Γ' G' H', kx x Γ' → Same G G' → Stt B Γ' σ G' H' → XOk B.K G' x cls dd → W cls dd σ H') → ta σ H Q
def EvTE (B : Bx) (W : WX) (tt : TT) (Γ : List Sl) (k : Bool → List Sl → Prop) (kx : Xc → List Sl → Prop) : Prop := ∀ σ G H Q, Stt B Γ σ G H →
  (∀ b Γ' G' H', k b Γ' → Same G G' → Stt B Γ' σ G' H' → Q b H') → (∀ x cls dd Γ' G' H', kx x Γ' → Same G G' → Stt B Γ' σ G' H' → XOk B.K G' x cls dd → W cls dd σ H') → tt σ H Q
section
variable {te to ti tf : TE} {ta aa : TA} {tt tu : TT} {t u : TS} {kk : D → List Sl → Prop} {ka : List D → List Sl → Prop} {kt : Bool → List Sl → Prop} {kx : Xc → List Sl → Prop}
theorem eve_of (h : Ev B te Γ d) (k : kk d Γ) : EvE B W te Γ kk kx := fun σ G H Q S q _ => h σ G H Q S fun v G1 H1 f r => q v d Γ G1 H1 k f.g (S.step f) r
theorem evae_of (h : EvA B ta Γ ds) (k : ka ds Γ) : EvAE B W ta Γ ka kx := fun σ G H Q S q _ => h σ G H Q S fun v G1 H1 f r => q v ds Γ G1 H1 k f.g (S.step f) r
theorem evte_of {p : Bool} (h : EvT B tt Γ p) (k : kt p Γ) : EvTE B W tt Γ kt kx := fun σ G H Q S q _ => h σ G H Q S fun G1 H1 f => q p Γ G1 H1 k f.g (S.step f)
theorem evx_e {x : Xc} (h : EvX B W te Γ x) (k : kx x Γ) : EvE B W te Γ kk kx := fun σ G H Q S _ q => h σ G H Q S fun cls dd G1 H1 f o => q x cls dd Γ G1 H1 k f.g (S.step f) o
theorem eve_mono {k2 : D → List Sl → Prop} {kx2 : Xc → List Sl → Prop} (h : EvE B W te Γ k2 kx2) (h1 : ∀ d Γ, k2 d Γ → kk d Γ) (h2 : ∀ x Γ, kx2 x Γ → kx x Γ) : EvE B W te Γ kk kx := fun σ G H Q S q qx =>
  h σ G H Q S (fun v d Γ' G' H' k => q v d Γ' G' H' (h1 d Γ' k)) fun x cls dd Γ' G' H' k => qx x cls dd Γ' G' H' (h2 x Γ' k)
theorem evae_nil (k : ka [] Γ) : EvAE B W tNil Γ ka kx := evae_of eva_nil k
theorem evae_cons (h : EvE B W te Γ (fun d Γ1 => EvAE B W ta Γ1 (fun ds Γ2 => ka (d :: ds) Γ2) kx) kx) : EvAE B W (tCons te ta) Γ ka kx := fun σ G H Q S q qx =>
  h σ G H _ S (fun v d Γ1 G1 H1 k s1 S1 r1 => k σ G1 H1 _ S1 (fun vs ds Γ2 G2 H2 k2 s2 S2 r2 => q (v :: vs) (d :: ds) Γ2 G2 H2 k2 (s1.trans s2) S2 (.cons (r1.mono s2) r2)) fun x cls dd Γ2 G2 H2 k2 s2 => qx x cls dd Γ2 G2 H2 k2 (s1.trans s2)) qx
theorem evte_test (h : EvE B W te Γ (fun d Γ1 => ∃ p, d = .bl p ∧ kt p Γ1) kx) : EvTE B W (tTest te) Γ kt kx := fun σ G H Q S q qx =>
  h σ G H _ S (fun v d Γ1 G1 H1 k s1 S1 r1 => by obtain ⟨p, rfl, k⟩ := k; cases r1; exact ⟨p, rfl, q p Γ1 G1 H1 k s1 S1⟩) qx
theorem evte_b (h : EvE B W te Γ (fun d Γ1 => ∃ p, d = .bl p ∧ kt p Γ1) kx) : EvTE B W (tB te) Γ kt kx := fun σ G H Q S q qx =>
  h σ G H _ S (fun v d Γ1 G1 H1 k s1 S1 r1 => by obtain ⟨p, rfl, k⟩ := k; cases r1; exact ⟨p, rfl, q p Γ1 G1 H1 k s1 S1⟩) qx
theorem evte_not (h : EvTE B W tt Γ (fun p => kt (!p)) kx) : EvTE B W (tNot tt) Γ kt kx := fun σ G H Q S q qx => h σ G H _ S (fun p => q (!p)) qx
theorem evte_and (h : EvTE B W tt Γ (fun p Γ1 => if p then EvTE B W tu Γ1 kt kx else kt false Γ1) kx) : EvTE B W (tAnd tt tu) Γ kt kx := fun σ G H Q S q qx =>
  h σ G H _ S (fun p Γ1 G1 H1 k s1 S1 => by
    cases p with
    | true => exact (show EvTE B W tu Γ1 kt kx from k) σ G1 H1 Q S1 (fun b Γ2 G2 H2 k2 s2 => q b Γ2 G2 H2 k2 (s1.trans s2)) fun x cls dd Γ2 G2 H2 k2 s2 => qx x cls dd Γ2 G2 H2 k2 (s1.trans s2)
    | false => exact q false Γ1 G1 H1 k s1 S1) qx
theorem evte_or (h : EvTE B W tt Γ (fun p Γ1 => if p then kt true Γ1 else EvTE B W tu Γ1 kt kx) kx) : EvTE B W (tOr tt tu) Γ kt kx := fun σ G H Q S q qx =>
  h σ G H _ S (fun p Γ1 G1 H1 k s1 S1 => by
    cases p with
    | false => exact (show EvTE B W tu Γ1 kt kx from k) σ G1 H1 Q S1 (fun b Γ2 G2 H2 k2 s2 => q b Γ2 G2 H2 k2 (s1.trans s2)) fun x cls dd Γ2 G2 H2 k2 s2 => qx x cls dd Γ2 G2 H2 k2 (s1.trans s2)
    | true => exact q true Γ1 G1 H1 k s1 S1) qx
/-! statements -/
theorem sv_setE (h : EvE B W te Γ (fun d Γ1 => ∃ Γ2, SetAt Γ1 i (.dat d) Γ2 ∧ P.nx Γ2) P.xc) : Sv B W (tAsg te (gName i)) Γ P := fun D σ G H E S =>
  h σ G H _ S (fun v d Γ1 G1 H1 k s1 S1 r1 => by
    obtain ⟨Γ2, hs, k⟩ := k
    obtain ⟨hi, rfl⟩ := hs.eq
    exact E.nx _ _ G1 H1 k s1 (S1.set hi r1)) fun x cls dd Γ1 G1 H1 k s1 S1 o => E.xc x Γ1 cls dd σ G1 H1 k s1 S1 o
theorem sv_asgE {g : TG} (h : EvE B W te Γ (fun d Γ1 => ∃ Γ2, EvG B g Γ1 d Γ2 ∧ P.nx Γ2) P.xc) : Sv B W (tAsg te g) Γ P := fun D σ G H E S =>
  h σ G H _ S (fun v d Γ1 G1 H1 k s1 S1 r1 => by
    obtain ⟨Γ2, hg, k⟩ := k
    exact hg σ G1 H1 v _ S1 r1 fun σ' S' => E.nx _ _ G1 H1 k s1 S') fun x cls dd Γ1 G1 H1 k s1 S1 o => E.xc x Γ1 cls dd σ G1 H1 k s1 S1 o
theorem sv_dropE (h : EvE B W te Γ (fun _ Γ1 => P.nx Γ1) P.xc) : Sv B W (tDrop te) Γ P := fun D σ G H E S =>
  h σ G H _ S (fun v d Γ1 G1 H1 k s1 S1 r1 => E.nx _ _ G1 H1 k s1 S1) fun x cls dd Γ1 G1 H1 k s1 S1 o => E.xc x Γ1 cls dd σ G1 H1 k s1 S1 o
theorem sv_retE (h : EvE B W te Γ (fun d Γ1 => ∃ (i : Nat) (M : Mem), Γ1[i]? = some (.mem M) ∧ P.rm d M) P.xc) : Sv B W (tRet te) Γ P := fun D σ G H E S =>
  h σ G H _ S (fun v d Γ1 G1 H1 k s1 S1 r1 => by obtain ⟨i, M, hi, k⟩ := k; exact E.rm d M v i Γ1 σ G1 H1 k hi S1 r1) fun x cls dd Γ1 G1 H1 k s1 S1 o => E.xc x Γ1 cls dd σ G1 H1 k s1 S1 o
theorem sv_retM (hm : Γ[m]? = some (.mem M)) (h : Ev B te Γ d) (k : P.rm d M) : Sv B W (tRet te) Γ P := sv_retE (eve_of h ⟨m, M, hm, k⟩)
theorem sv_retNM (hm : Γ[m]? = some (.mem M)) (k : P.rm .non M) : Sv B W tRetN Γ P := fun D σ G H E S => E.rm .non M .non m Γ σ G H k hm S .non
theorem sv_retR (h : EvE B W te Γ (fun d _ => P.rt (.dat d)) P.xc) (h0 : ∀ a, ¬ B.F0 a) : Sv B W (tRet te) Γ P := fun D σ G H E S =>
  h σ G H _ S (fun v d Γ1 G1 H1 k s1 S1 r1 => E.rt (.dat d) v G1 H1 k S1.fw r1) fun x cls dd Γ1 G1 H1 k s1 S1 o => E.xc x Γ1 cls dd σ G1 H1 k s1 S1 o
theorem sv_ifE (h : EvTE B W tt Γ (fun p Γ1 => if p then Sv B W t Γ1 P else Sv B W u Γ1 P) P.xc) : Sv B W (tIfS tt t u) Γ P := fun D σ G H E S =>
  h σ G H _ S (fun p Γ1 G1 H1 k s1 S1 => by
    cases p with
    | true => exact (show Sv B W t Γ1 P from k) D σ G1 H1 (E.mono s1) S1
    | false => exact (show Sv B W u Γ1 P from k) D σ G1 H1 (E.mono s1) S1) fun x cls dd Γ1 G1 H1 k s1 S1 o => E.xc x Γ1 cls dd σ G1 H1 k s1 S1 o
/-! new objects -/
theorem eve_lst (ha : EvA B aa Γ ds) (hl : ds.length ≤ 16777216) (hm : Γ[m]? = some (.mem M)) (k : ∀ a, M a = none → kk (.ref a) (Γ.set m (.mem (ups M a (.lst ds))))) : EvE B W (tLst aa) Γ kk kx := fun σ G H Q S q _ =>
  ha σ G H _ S fun vs G1 H1 f1 r1 => ⟨by rw [r1.length]; exact line_le hl, fun p hp => by
    have S1 := S.step f1
    have hn : M p = none := by
      cases e : M p with
      | none => rfl
      | some w => obtain ⟨_, u, z, _⟩ := S1.mem hm p w e; rw [hp] at z; cases z
    exact q (.ref p) (.ref p) _ G1 _ (k p hn) f1.g (S1.memNew hm hp ⟨vs, rfl, r1⟩) (.ref p)⟩
theorem fresh_mem {S : Stt B Γ σ G H} (hm : Γ[m]? = some (.mem M)) (hp : H a = none) : M a = none := by
  cases e : M a with
  | none => rfl
  | some w => obtain ⟨_, u, z, _⟩ := S.mem hm a w e; rw [hp] at z; cases z
/-- one's own new object, kept in memory -/
theorem eve_own (h : EvO B te Γ w) (hm : Γ[m]? = some (.mem M)) (k : ∀ a, M a = none → kk (.ref a) (Γ.set m (.mem (ups M a w)))) : EvE B W te Γ kk kx := fun σ G H Q S q _ =>
  h σ G H _ S fun a u G1 H1 f g n e o => by
    have S0 := S.step f
    have hil : m < Γ.length := (List.getElem?_eq_some_iff.mp hm).1
    have hn : M a = none := fresh_mem (S := S) hm n
    have no := S.apart n
    refine q (.ref a) (.ref a) _ G1 H1 (k a hn) f.g ?_ (.ref a)
    have key : ∀ (j : Nat) (c : Addr), Owns (Γ.set m (.mem (ups M a w))) σ j c → (c = a ∧ j = m) ∨ Owns Γ σ j c := fun j c h => by
      by_cases e : j = m
      · subst e
        unfold Owns at h
        rw [List.getElem?_set_self hil] at h
        rcases h with ⟨o, h1, _⟩ | ⟨M2, w2, h1, h2⟩
        · cases h1
        · cases h1
          by_cases z : c = a
          · exact .inl ⟨z, rfl⟩
          · rw [ups_ne z] at h2; exact .inr (.inr ⟨M, w2, hm, h2⟩)
      · exact .inr (owns_neΓ e h)
    refine ⟨S0.fw, by simp [S.len], fun j s h => ?_, fun j l b h1 h2 => ?_, fun j o b h1 h2 => ?_, fun j M2 b w2 h1 h2 => ?_⟩
    · by_cases e2 : j = m
      · subst e2
        rw [List.getElem?_set_self hil] at h
        cases h
        intro b w2 hb
        by_cases z : b = a
        · subst z
          rw [ups_same] at hb
          cases hb
          exact ⟨g, u, e, o⟩
        · rw [ups_ne z] at hb
          exact S0.mem hm b w2 hb
      · rw [List.getElem?_set_ne (Ne.symm e2)] at h
        exact S0.sl j s h
    · rcases key j b h1 with ⟨rfl, rfl⟩ | q1
      · rcases key l b h2 with ⟨_, rfl⟩ | q2
        · rfl
        · exact absurd q2 (no l)
      · rcases key l b h2 with ⟨rfl, rfl⟩ | q2
        · exact absurd q1 (no j)
        · exact S.ap j l b q1 q2
    · by_cases e2 : j = m
      · subst e2; rw [List.getElem?_set_self hil] at h1; cases h1
      · rw [List.getElem?_set_ne (Ne.symm e2)] at h1; exact S.nw j o b h1 h2
    · by_cases e2 : j = m
      · subst e2
        rw [List.getElem?_set_self hil] at h1
        cases h1
        by_cases z : b = a
        · subst z; exact .inl (S.fr n)
        · rw [ups_ne z] at h2; exact S.nm j M b w2 hm h2
      · rw [List.getElem?_set_ne (Ne.symm e2)] at h1; exact S.nm j M2 b w2 h1 h2
theorem eve_dnew (hm : Γ[m]? = some (.mem M)) (k : ∀ a, M a = none → kk (.ref a) (Γ.set m (.mem (ups M a (.dk []))))) : EvE B W tDNewK Γ kk kx := eve_own evo_dnew hm k
end
end
end Z

/-! Z23: objects of memory changed and read; lent and given up. -/
namespace Z
open PySem PySem.Spec PyProof.Rows L2
section
variable {K : PySem.W.Frag} {B : Bx} {W : WX} {Γ Γ' : List Sl} {P : Po} {σ σ' : L2.St} {G G' H H' : Hp} {M N M' : Mem} {i j m n : Nat} {a : Addr} {w w' : Ow} {d e : D} {ds as : List D} {ks : List (Key × D)} {k : Key} {z : Int} {x : Str}
variable {te to ti tf : TE} {ta aa : TA} {tt tu : TT} {t u : TS} {kk : D → List Sl → Prop} {kx : Xc → List Sl → Prop}
theorem Stt.atM (S : Stt B Γ σ G H) (hm : Γ[m]? = some (.mem M)) (ha : M a = some w) : G a = none ∧ ∃ u, H a = some u ∧ OwOk B.K G a w u := S.mem hm a w ha
/-! ### statements that change an object -/
/-- o.append(e) -/
theorem eve_mApp (ho : Ev B to Γ (.ref a)) (hm0 : Γ[m]? = some (.mem M)) (ha0 : M a = some (.lst as))
    (he : EvE B W te Γ (fun d Γ1 => ∃ M1 ds, Γ1[m]? = some (.mem M1) ∧ M1 a = some (.lst ds) ∧ ds.length < 16777216 ∧ kk .non (Γ1.set m (.mem (ups M1 a (.lst (ds ++ [d])))))) kx) :
    EvE B W (tBM B.K "list" rAppend to (tCons te tNil)) Γ kk kx := fun σ G H Q S q qx =>
  ho σ G H _ S fun v G1 H1 f1 r1 => by
    cases r1 with
    | ref =>
      have S1 := S.step f1
      obtain ⟨g, u, hu, ⟨xs, rfl, _⟩⟩ := S1.atM hm0 ha0
      refine ⟨.inl ⟨rfl, xs, .inl (.inl hu)⟩, ?_⟩
      refine he σ G1 H1 _ S1 (fun v2 d Γ1 G2 H2 k s2 S2 r2 => ?_) fun x cls dd Γ2 G2 H2 k2 s2 => qx x cls dd Γ2 G2 H2 k2 (f1.g.trans s2)
      obtain ⟨M1, ds, hm1, ha1, hl, k⟩ := k
      obtain ⟨g2, u2, hu2, ⟨xs2, rfl, rr⟩⟩ := S2.atM hm1 ha1
      exact ⟨a, xs2, v2, rfl, rfl, hu2, by rw [rr.length]; exact line_lt hl, q .non .non _ G2 _ k (f1.g.trans s2) (S2.memMut hm1 ha1 ⟨_, rfl, rr.append (.cons r2 .nil)⟩) .non⟩
/-- o.pop() -/
theorem eve_mPop (ho : Ev B to Γ (.ref a)) (hm : Γ[m]? = some (.mem M)) (ha : M a = some (.lst (as ++ [d]))) (k : kk d (Γ.set m (.mem (ups M a (.lst as))))) : EvE B W (tBM0 B.K "list" rPop to) Γ kk kx := fun σ G H Q S q qx =>
  ho σ G H _ S fun v G1 H1 f1 r1 => by
    cases r1 with
    | ref =>
      have S1 := S.step f1
      obtain ⟨g, u, hu, ⟨xs, rfl, rr⟩⟩ := S1.atM hm ha
      obtain ⟨v, hv, rv⟩ := rr.get (i := as.length) (d := d) (by simp)
      have hl : xs.length = as.length + 1 := by rw [rr.length]; simp
      refine ⟨.inl ⟨rfl, xs, .inl (.inl hu)⟩, a, xs, v, rfl, rfl, hu, by rw [hl]; exact hv, ?_⟩
      refine q v d _ G1 _ k f1.g (S1.memMut hm ha ⟨_, rfl, ?_⟩) rv
      have := rr.take as.length
      rw [List.take_left'] at this
      · rw [List.dropLast_eq_take, hl]; exact this
      · rfl
/-- o.reverse() -/
theorem eve_mRev (ho : Ev B to Γ (.ref a)) (hm : Γ[m]? = some (.mem M)) (ha : M a = some (.lst as)) (k : kk .non (Γ.set m (.mem (ups M a (.lst as.reverse))))) : EvE B W (tBM0 B.K "list" rReverse to) Γ kk kx := fun σ G H Q S q qx =>
  ho σ G H _ S fun v G1 H1 f1 r1 => by
    cases r1 with
    | ref =>
      have S1 := S.step f1
      obtain ⟨g, u, hu, ⟨xs, rfl, rr⟩⟩ := S1.atM hm ha
      exact ⟨.inl ⟨rfl, xs, .inl (.inl hu)⟩, a, xs, rfl, rfl, hu, q .non .non _ G1 _ k f1.g (S1.memMut hm ha ⟨_, rfl, rr.reverse⟩) .non⟩
/-- o[i] = e -/
theorem sv_mStL (he : EvE B W te Γ (fun d Γ1 => ∃ M1 ds a i j, Γ1[m]? = some (.mem M1) ∧ M1 a = some (.lst ds) ∧ Ev B to Γ1 (.ref a) ∧ Ev B ti Γ1 (.int i) ∧ ixN ds.length i = some j ∧ P.nx (Γ1.set m (.mem (ups M1 a (.lst (ds.set j d)))))) P.xc) :
    Sv B W (tAsg te (gSub to ti zSet)) Γ P := fun D σ G H E S =>
  he σ G H _ S (fun v d Γ1 G1 H1 k s1 S1 r1 => by
    obtain ⟨M1, ds, a, i, j, hm, ha, ho, hi, hj, k⟩ := k
    refine ho σ G1 H1 _ S1 fun o G2 H2 f2 r2 => hi σ G2 H2 _ (S1.step f2) fun y G3 H3 f3 r3 => ?_
    cases r2; cases r3
    have S3 := (S1.step f2).step f3
    obtain ⟨g, u, hu, ⟨xs, rfl, rr⟩⟩ := S3.atM hm ha
    refine .inl ⟨a, xs, i, j, rfl, rfl, hu, by rw [rr.length]; exact hj, ?_⟩
    have r13 := r1.mono (f2.g.trans f3.g)
    exact E.nx _ _ G3 _ k ((s1.trans f2.g).trans f3.g) (S3.memMut hm ha ⟨_, rfl, rr.set r13 j⟩)) fun x cls dd Γ1 G1 H1 k s1 S1 o => E.xc x Γ1 cls dd σ G1 H1 k s1 S1 o
/-- o[k] = e, o a dict -/
theorem sv_mStD (he : EvE B W te Γ (fun d Γ1 => ∃ M1 ks a k, Γ1[m]? = some (.mem M1) ∧ M1 a = some (.dk ks) ∧ Ev B to Γ1 (.ref a) ∧ Ev B ti Γ1 (kD k) ∧ ks.length < 16777216 ∧ P.nx (Γ1.set m (.mem (ups M1 a (.dk (putD ks k d)))))) P.xc) :
    Sv B W (tAsg te (gSub to ti zSet)) Γ P := fun D σ G H E S =>
  he σ G H _ S (fun v d Γ1 G1 H1 k s1 S1 r1 => by
    obtain ⟨M1, ks, a, k, hm, ha, ho, hi, hl, kk⟩ := k
    refine ho σ G1 H1 _ S1 fun o G2 H2 f2 r2 => hi σ G2 H2 _ (S1.step f2) fun y G3 H3 f3 r3 => ?_
    have ey := rp_key r3
    subst ey
    cases r2
    have S3 := (S1.step f2).step f3
    obtain ⟨g, u, hu, ⟨xs, rfl, rr⟩⟩ := S3.atM hm ha
    refine .inr ⟨a, _, rfl, .inl ⟨xs, k, hu, rfl, by rw [rr.length]; exact line_lt hl, rfl⟩, ?_⟩
    have r13 := r1.mono (f2.g.trans f3.g)
    exact E.nx _ _ G3 _ kk ((s1.trans f2.g).trans f3.g) (S3.memMut hm ha ⟨_, rfl, rr.put r13⟩)) fun x cls dd Γ1 G1 H1 k s1 S1 o => E.xc x Γ1 cls dd σ G1 H1 k s1 S1 o
/-- o.f = e -/
theorem sv_mFld {f : Str} (he : EvE B W te Γ (fun d Γ1 => ∃ M1 a C fs, Γ1[m]? = some (.mem M1) ∧ M1 a = some (.ins C fs none) ∧ Ev B to Γ1 (.ref a) ∧ Cls B.K C ∧ NoAttr B.K C f ∧ fs.length < 1000 ∧ P.nx (Γ1.set m (.mem (ups M1 a (.ins C (putFD f d fs) none))))) P.xc) :
    Sv B W (sFld B.K to te f) Γ P := fun D σ G H E S =>
  he σ G H _ S (fun v d Γ1 G1 H1 k s1 S1 r1 => by
    obtain ⟨M1, a, C, fs, hm, ha, ho, c, na, hl, k⟩ := k
    refine ho σ G1 H1 _ S1 fun o G2 H2 f2 r2 => ?_
    cases r2
    have S2 := S1.step f2
    obtain ⟨g, u, hu, ⟨_, dx, xs, rfl, rr⟩⟩ := S2.atM hm ha
    refine ⟨a, C, dx, xs, rfl, hu, c, na, by rw [rr.length]; exact hl, ?_⟩
    exact E.nx _ _ G2 _ k (s1.trans f2.g) (S2.memMut hm ha ⟨(fun _ z => nomatch z), dx, _, rfl, rr.put (r1.mono f2.g)⟩)) fun x cls dd Γ1 G1 H1 k s1 S1 o => E.xc x Γ1 cls dd σ G1 H1 k s1 S1 o
/-- o.setdefault(k, []).append(e) -/
theorem eve_setdApp (hm : Γ[m]? = some (.mem M)) (ho : Ev B to Γ (.ref a)) (ha : M a = some (.dk ks)) (hk : Ev B ti Γ (kD k)) (hl : ks.length < 16777216)
    (h : ∀ b M1 ds, ((valD ks k = some (.ref b) ∧ M b = some (.lst ds) ∧ b ≠ a ∧ M1 = M) ∨ (valD ks k = none ∧ M b = none ∧ ds = [] ∧ M1 = ups (ups M b (.lst [])) a (.dk (putD ks k (.ref b))))) →
      ds.length < 16777216 ∧ ∃ d, Ev B te (Γ.set m (.mem M1)) d ∧ kk .non (Γ.set m (.mem (ups M1 b (.lst (ds ++ [d]))))))
    (hex : ∀ d, valD ks k = some d → ∃ b ds, d = .ref b ∧ M b = some (.lst ds) ∧ b ≠ a) :
    EvE B W (tBM B.K "list" rAppend (tDSetd to ti (tLst tNil)) (tCons te tNil)) Γ kk kx := fun σ G H Q S q qx =>
  ho σ G H _ S fun v G1 H1 f1 r1 => by
    cases r1 with
    | ref =>
      have S1 := S.step f1
      have hil : m < Γ.length := (List.getElem?_eq_some_iff.mp hm).1
      have e0 : Γ.set m (.mem M) = Γ := by
        refine List.ext_getElem? fun j => ?_
        by_cases e : j = m
        · subst e; rw [List.getElem?_set_self hil, hm]
        · rw [List.getElem?_set_ne (Ne.symm e)]
      obtain ⟨g, u, hu, ⟨kvs, rfl, rr⟩⟩ := S1.atM hm ha
      refine ⟨a, rfl, .inl ⟨kvs, .inl hu⟩, hk σ G1 H1 _ S1 fun y G2 H2 f2 r2 => ?_⟩
      have ey := rp_key r2
      subst ey
      have S2 := S1.step f2
      refine ⟨by show 0 ≤ sizeLine; exact Nat.zero_le _, fun b hb => ?_⟩
      have nb : M b = none := fresh_mem (S := S2) hm hb
      have S3 := S2.memNew (w := .lst []) (u := .lst []) hm hb ⟨[], rfl, .nil⟩
      have hm3 : (Γ.set m (.mem (ups M b (.lst []))))[m]? = some (.mem (ups M b (.lst []))) := List.getElem?_set_self hil
      have ab : a ≠ b := mem_ne ha nb
      have ha3 : ups M b (.lst []) a = some (.dk ks) := ups_get ha nb
      obtain ⟨g3, u3, hu3, ⟨kvs3, rfl, rr3⟩⟩ := S3.atM hm3 ha3
      refine ⟨kvs3, k, hu3, rfl, by rw [rr3.length]; exact line_lt hl, fun v hv => ?_, fun hv => ?_⟩
      · -- it is there
        cases e : valD ks k with
        | none => rw [rr3.miss e] at hv; cases hv
        | some d =>
          obtain ⟨c, ds, rfl, hc, hca⟩ := hex d e
          obtain ⟨v', h1, h2⟩ := rr3.val e
          rw [hv] at h1
          cases h1
          cases h2
          obtain ⟨hl2, d2, he2, kq⟩ := h c M ds (.inl ⟨e, hc, hca, rfl⟩)
          rw [e0] at he2
          have S2' : Stt B Γ σ G2 (upd H2 b (.lst [])) := S2.other (S2.fr hb) (S2.same.free hb) (S2.apart hb)
          obtain ⟨g4, u4, hu4, ⟨xs4, rfl, rr4⟩⟩ := S2'.atM hm hc
          refine ⟨.inl ⟨rfl, xs4, .inl (.inl hu4)⟩, he2 σ G2 _ _ S2' fun v5 G5 H5 f5 r5 => ?_⟩
          have S5 := S2'.step f5
          obtain ⟨g6, u6, hu6, ⟨xs6, rfl, rr6⟩⟩ := S5.atM hm hc
          exact ⟨c, xs6, v5, rfl, rfl, hu6, by rw [rr6.length]; exact line_lt hl2, q .non .non _ G5 _ kq ((f1.g.trans f2.g).trans f5.g) (S5.memMut hm hc ⟨_, rfl, rr6.append (.cons r5 .nil)⟩) .non⟩
      · -- it is new
        have e : valD ks k = none := by
          cases e : valD ks k with
          | none => rfl
          | some d => obtain ⟨v', h1, _⟩ := rr3.val e; rw [hv] at h1; cases h1
        obtain ⟨hl2, d2, he2, kq⟩ := h b _ [] (.inr ⟨e, nb, rfl, rfl⟩)
        have S4 := S3.memMut (w' := .dk (putD ks k (.ref b))) (u' := .dK (putK kvs3 k (.ref b))) hm3 ha3 ⟨_, rfl, rr3.put (.ref b)⟩
        rw [List.set_set] at S4
        have hm4 : (Γ.set m (.mem (ups (ups M b (.lst [])) a (.dk (putD ks k (.ref b))))))[m]? = some (.mem (ups (ups M b (.lst [])) a (.dk (putD ks k (.ref b))))) := List.getElem?_set_self hil
        have hb4 : ups (ups M b (.lst [])) a (.dk (putD ks k (.ref b))) b = some (.lst []) := by rw [ups_ne (Ne.symm ab), ups_same]
        obtain ⟨g4, u4, hu4, ⟨xs4, rfl, rr4⟩⟩ := S4.atM hm4 hb4
        refine ⟨.inl ⟨rfl, xs4, .inl (.inl hu4)⟩, he2 σ G2 _ _ S4 fun v5 G5 H5 f5 r5 => ?_⟩
        have S5 := S4.step f5
        obtain ⟨g6, u6, hu6, ⟨xs6, rfl, rr6⟩⟩ := S5.atM hm4 hb4
        refine ⟨b, xs6, v5, rfl, rfl, hu6, by rw [rr6.length]; exact line_lt hl2, ?_⟩
        have S6 := S5.memMut (w' := .lst ([] ++ [d2])) (u' := .lst (xs6 ++ [v5])) hm4 hb4 ⟨_, rfl, rr6.append (.cons r5 .nil)⟩
        rw [List.set_set] at S6
        exact q .non .non _ G5 _ kq ((f1.g.trans f2.g).trans f5.g) S6 .non
/-! ### reads of what is one's own -/
theorem ev_mIx (hm : Γ[m]? = some (.mem M)) (ho : Ev B to Γ (.ref a)) (ha : M a = some (.lst ds)) (hi : Ev B ti Γ (.int z)) (h : atI ds z = some d) : Ev B (tOp (zIx B.K) to ti) Γ d := fun σ G H Q S q =>
  ho σ G H _ S fun v G1 H1 f1 r1 => hi σ G1 H1 _ (S.step f1) fun y G2 H2 f2 r2 => by
    cases r1; cases r2
    obtain ⟨g, u, hu, ⟨xs, rfl, rr⟩⟩ := ((S.step f1).step f2).atM hm ha
    obtain ⟨v, e, r⟩ := atI_rps rr h
    exact .inl (.inl ⟨_, _, z, v, rfl, rfl, .inl (.inl hu), e, q v G2 H2 (f1.trans f2) r⟩)
theorem ev_mIxD (hm : Γ[m]? = some (.mem M)) (ho : Ev B to Γ (.ref a)) (ha : M a = some (.dk ks)) (hi : Ev B ti Γ (kD k)) (h : valD ks k = some d) : Ev B (tOp (zIx B.K) to ti) Γ d := fun σ G H Q S q =>
  ho σ G H _ S fun v G1 H1 f1 r1 => hi σ G1 H1 _ (S.step f1) fun y G2 H2 f2 r2 => by
    have ey := rp_key r2
    subst ey
    cases r1
    obtain ⟨g, u, hu, ⟨xs, rfl, rr⟩⟩ := ((S.step f1).step f2).atM hm ha
    obtain ⟨v, e, r⟩ := rr.val h
    exact .inr ⟨_, v, rfl, .inl ⟨_, k, .inl hu, rfl, e.symm⟩, q v G2 H2 (f1.trans f2) r⟩
theorem ev_mGet2 (hm : Γ[m]? = some (.mem M)) (hd : Ev B to Γ (.ref a)) (ha : M a = some (.dk ks)) (hk : Ev B ti Γ (kD k)) (hx : Ev B te Γ e) : Ev B (tDGet2 to ti te) Γ ((valD ks k).getD e) := fun σ G H Q S q =>
  hd σ G H _ S fun v1 G1 H1 f1 r1 => by
    cases r1
    obtain ⟨g, u, hu, ⟨xs, rfl, rr⟩⟩ := (S.step f1).atM hm ha
    refine ⟨_, rfl, .inl ⟨_, .inl hu⟩, hk σ G1 H1 _ (S.step f1) fun v2 G2 H2 f2 r2 => ?_⟩
    refine hx σ G2 H2 _ ((S.step f1).step f2) fun v3 G3 H3 f3 r3 => ?_
    have ey := rp_key r2
    subst ey
    have rr' := rr.mono (f2.g.trans f3.g)
    refine ⟨_, .inl ⟨_, k, .inl (f3.h _ _ (f2.h _ _ hu)), rfl, rfl⟩, ?_⟩
    cases e1 : valD ks k with
    | none => rw [rr'.miss e1]; exact q _ G3 H3 ((f1.trans f2).trans f3) (by rw [e1] at *; exact r3)
    | some d =>
      obtain ⟨v, h, rv⟩ := rr'.val e1
      rw [h]; exact q v G3 H3 ((f1.trans f2).trans f3) (by rw [e1] at *; exact rv)
theorem ev_mFld {C : Addr} {fs : List (Str × D)} {oa : Option Addr} {f : Str} (hm : Γ[m]? = some (.mem M)) (ho : Ev B to Γ (.ref a)) (ha : M a = some (.ins C fs oa)) (c : Cls B.K C) (na : NoAttr B.K C f) (hl : fs.lookup f = some d) : Ev B (tFld B.K to f) Γ d := fun σ G H Q S q =>
  ho σ G H _ S fun v G1 H1 f1 r1 => by
    cases r1
    obtain ⟨g, u, hu, ⟨_, dx, xs, rfl, rr⟩⟩ := (S.step f1).atM hm ha
    obtain ⟨v, e2, r2⟩ := rr.lookup hl
    exact ⟨a, C, dx, xs, v, rfl, hu, c, na, e2, q v G1 H1 f1 r2⟩
/-! ### views -/
mutual
inductive View (N : Mem) : D → D → Prop
  | rfl {d : D} : View N d d
  | lst {a : Addr} {ds es : List D} : N a = some (.lst ds) → Views N ds es → View N (.ref a) (.lst es)
  | dk {a : Addr} {ks ls : List (Key × D)} : N a = some (.dk ks) → Viewk N ks ls → View N (.ref a) (.dk ls)
  | ins {a C : Addr} {oa : Option Addr} {fs gs : List (Str × D)} : N a = some (.ins C fs oa) → Viewf N fs gs → View N (.ref a) (.obj C gs)
  | lstD {ds es : List D} : Views N ds es → View N (.lst ds) (.lst es)
  | tupD {ds es : List D} : Views N ds es → View N (.tup ds) (.tup es)
inductive Views (N : Mem) : List D → List D → Prop
  | nil : Views N [] []
  | cons {d e : D} {ds es : List D} : View N d e → Views N ds es → Views N (d :: ds) (e :: es)
inductive Viewk (N : Mem) : List (Key × D) → List (Key × D) → Prop
  | nil : Viewk N [] []
  | cons {k : Key} {d e : D} {ds es : List (Key × D)} : View N d e → Viewk N ds es → Viewk N ((k, d) :: ds) ((k, e) :: es)
inductive Viewf (N : Mem) : List (Str × D) → List (Str × D) → Prop
  | nil : Viewf N [] []
  | cons {k : Str} {d e : D} {ds es : List (Str × D)} : View N d e → Viewf N ds es → Viewf N ((k, d) :: ds) ((k, e) :: es)
end
theorem Views.refl : ∀ ds : List D, Views N ds ds
  | [] => .nil
  | _ :: r => .cons .rfl (Views.refl r)
theorem Viewk.refl : ∀ ds : List (Key × D), Viewk N ds ds
  | [] => .nil
  | _ :: r => .cons .rfl (Viewk.refl r)
theorem Viewf.refl : ∀ ds : List (Str × D), Viewf N ds ds
  | [] => .nil
  | _ :: r => .cons .rfl (Viewf.refl r)
mutual
theorem View.rp {Gp : Hp} (s : Same G Gp) (hN : ∀ a w, N a = some w → ∃ u, Gp a = some u ∧ OwOk K G a w u) : ∀ {d e : D} {v : V}, View N d e → Rp K G v d → Rp K Gp v e
  | _, _, _, .rfl, r => r.mono s
  | _, _, _, .lst h q, r => by
    cases r
    obtain ⟨u, hu, xs, rfl, rr⟩ := hN _ _ h
    exact .lst (.inl (.inl hu)) (Views.rp s hN q rr)
  | _, _, _, .dk h q, r => by
    cases r
    obtain ⟨u, hu, xs, rfl, rr⟩ := hN _ _ h
    exact .dk (.inl hu) (Viewk.rp s hN q rr)
  | _, _, _, .ins h q, r => by
    cases r
    obtain ⟨u, hu, _, dx, xs, rfl, rr⟩ := hN _ _ h
    exact .obj hu (Viewf.rp s hN q rr)
  | _, _, _, .lstD q, .lst h1 r1 => .lst (same_l s h1) (Views.rp s hN q r1)
  | _, _, _, .tupD q, .tup h1 r1 => .tup (same_t s h1) (Views.rp s hN q r1)
theorem Views.rp {Gp : Hp} (s : Same G Gp) (hN : ∀ a w, N a = some w → ∃ u, Gp a = some u ∧ OwOk K G a w u) : ∀ {d e : List D} {v : List V}, Views N d e → Rps K G v d → Rps K Gp v e
  | _, _, _, .nil, .nil => .nil
  | _, _, _, .cons q qs, .cons r rs => .cons (View.rp s hN q r) (Views.rp s hN qs rs)
theorem Viewk.rp {Gp : Hp} (s : Same G Gp) (hN : ∀ a w, N a = some w → ∃ u, Gp a = some u ∧ OwOk K G a w u) : ∀ {d e : List (Key × D)} {v : List (Key × V)}, Viewk N d e → Rks K G v d → Rks K Gp v e
  | _, _, _, .nil, .nil => .nil
  | _, _, _, .cons q qs, .cons r rs => .cons (View.rp s hN q r) (Viewk.rp s hN qs rs)
theorem Viewf.rp {Gp : Hp} (s : Same G Gp) (hN : ∀ a w, N a = some w → ∃ u, Gp a = some u ∧ OwOk K G a w u) : ∀ {d e : List (Str × D)} {v : List (Str × V)}, Viewf N d e → Rfs K G v d → Rfs K Gp v e
  | _, _, _, .nil, .nil => .nil
  | _, _, _, .cons q qs, .cons r rs => .cons (View.rp s hN q r) (Viewf.rp s hN qs rs)
end
/-- the slots, where N's objects have become data; M' is left in memory -/
inductive SlV (N M M' : Mem) : Sl → Sl → Prop
  | un : SlV N M M' .un .un
  | any {s : Sl} : SlV N M M' s .un
  | dat {d e : D} : View N d e → SlV N M M' (.dat d) (.dat e)
  | mem : SlV N M M' (.mem M) (.mem M')
  | own {w : Ow} : SlV N M M' (.own w) (.own w)
inductive SlVs (N M M' : Mem) : List Sl → List Sl → Prop
  | nil : SlVs N M M' [] []
  | cons {s t : Sl} {ss ts : List Sl} : SlV N M M' s t → SlVs N M M' ss ts → SlVs N M M' (s :: ss) (t :: ts)
theorem SlVs.length : ∀ {ss ts : List Sl}, SlVs N M M' ss ts → ss.length = ts.length
  | _, _, .nil => rfl
  | _, _, .cons _ r => congrArg (· + 1) r.length
theorem SlVs.get : ∀ {ss ts : List Sl} {i : Nat} {t : Sl}, SlVs N M M' ss ts → ts[i]? = some t → ∃ s, ss[i]? = some s ∧ SlV N M M' s t
  | _, _, _, _, .nil, e => by simp at e
  | _, _, 0, _, .cons h _, e => by simp at e; subst e; exact ⟨_, rfl, h⟩
  | _, _, i + 1, t, .cons _ r, e => by
    obtain ⟨v, h1, h2⟩ := SlVs.get (i := i) (t := t) r (by simpa using e)
    exact ⟨v, by simpa using h1, h2⟩
def frzM (N : Mem) (G H : Hp) : Hp := fun a => match N a with
  | some _ => H a
  | none => G a
theorem Stt.view (S : Stt B Γ σ G H) (hN : ∀ a w, N a = some w → M a = some w) (hM' : ∀ a w, M' a = some w → M a = some w ∧ N a = none) (hm : Γ[m]? = some (.mem M)) (V : SlVs N M M' Γ Γ') : Same G (frzM N G H) ∧ Stt B Γ' σ (frzM N G H) H := by
  have gn : ∀ a w, N a = some w → G a = none := fun a w e => (S.atM hm (hN a w e)).1
  have sg : Same G (frzM N G H) := fun b o q => by
    unfold frzM
    cases e : N b with
    | none => exact q
    | some w => rw [gn b w e] at q; cases q
  have hb : ∀ a w, N a = some w → ∃ u, frzM N G H a = some u ∧ OwOk B.K G a w u := fun a w e => by
    obtain ⟨_, u, hu, o⟩ := S.atM hm (hN a w e)
    exact ⟨u, by unfold frzM; rw [e]; exact hu, o⟩
  have off : ∀ a, N a = none → frzM N G H a = G a := fun a e => by unfold frzM; rw [e]
  have key : ∀ (j : Nat) (c : Addr), Owns Γ' σ j c → Owns Γ σ j c ∧ N c = none := fun j c h => by
    rcases h with ⟨o, h1, h2⟩ | ⟨M2, w2, h1, h2⟩
    · obtain ⟨s, hs, q⟩ := V.get h1
      cases q
      have oj : Owns Γ σ j c := .inl ⟨o, hs, h2⟩
      refine ⟨oj, ?_⟩
      cases e : N c with
      | none => rfl
      | some w =>
        have := S.ap j m c oj (.inr ⟨M, w, hm, hN c w e⟩)
        subst this
        rw [hs] at hm
        cases hm
    · obtain ⟨s, hs, q⟩ := V.get h1
      cases q
      have := hM' c w2 h2
      exact ⟨.inr ⟨M, w2, hs, this.1⟩, this.2⟩
  refine ⟨sg, ⟨⟨S.fw.g.trans sg, S.fw.h, S.fw.l, fun b o q => ?_, fun b o q n => ?_⟩, by rw [← V.length]; exact S.len, fun j t h => ?_, fun j k b h1 h2 => S.ap j k b (key j b h1).1 (key k b h2).1, fun j o b h1 h2 => ?_, fun j M2 b w2 h1 h2 => ?_⟩⟩
  · cases e : N b with
    | none => rw [off b e] at q; exact S.same b o q
    | some w => unfold frzM at q; rw [e] at q; exact q
  · cases e : N b with
    | none => rw [off b e] at q; exact S.fw.n b o q n
    | some w => exact S.nm m M b w hm (hN b w e)
  · obtain ⟨s, hs, q⟩ := V.get h
    have qs := S.sl j s hs
    cases q with
    | un => trivial
    | any => trivial
    | dat v => obtain ⟨x, e, r⟩ := qs; exact ⟨x, e, v.rp sg hb r⟩
    | mem =>
      intro b w2 e
      obtain ⟨g2, u2, z2, r2⟩ := S.mem hs b w2 (hM' b w2 e).1
      exact ⟨by rw [off b (hM' b w2 e).2]; exact g2, u2, z2, r2.mono sg⟩
    | own =>
      obtain ⟨b, u2, e2, g2, z2, r2⟩ := qs
      refine ⟨b, u2, e2, ?_, z2, r2.mono sg⟩
      have oj : Owns Γ' σ j b := .inl ⟨_, h, by
        cases q : σ[j]? with
        | none => rw [q] at e2; cases e2
        | some y => rw [q] at e2; exact congrArg some e2⟩
      rw [off b (key j b oj).2]
      exact g2
  · obtain ⟨s, hs, q⟩ := V.get h1
    cases q
    exact S.nw j o b hs h2
  · obtain ⟨s, hs, q⟩ := V.get h1
    cases q
    exact S.nm j M b w2 hs (hM' b w2 h2).1
/-- memory is given up, in part or whole -/
theorem sv_view (N M' : Mem) (hm : Γ[m]? = some (.mem M)) (hN : ∀ a w, N a = some w → M a = some w) (hM' : ∀ a w, M' a = some w → M a = some w ∧ N a = none) (V : SlVs N M M' Γ Γ') (h : Sv B W t Γ' P) : Sv B W t Γ P := fun D σ G H E S => by
  obtain ⟨s, S'⟩ := S.view hN hM' hm V
  exact h D σ _ H (E.mono s) S'
theorem sv_viewAll (hm : Γ[m]? = some (.mem M)) (V : SlVs M M mem0 Γ Γ') (h : Sv B W t Γ' P) : Sv B W t Γ P := sv_view M mem0 hm (fun _ _ h => h) (fun _ _ z => nomatch z) V h
/-- lent, for a flat answer -/
theorem ev_lend (hm : Γ[m]? = some (.mem M)) (V : SlVs M M mem0 Γ Γ') (hd : flatD d = true) (h : Ev B te Γ' d) : Ev B te Γ d := fun σ G H Q S q => by
  obtain ⟨s, S'⟩ := S.view (fun _ _ h => h) (fun _ _ z => by cases z) hm V
  exact h σ _ H Q S' fun v G' H' f r => q v G H' ⟨Same.refl _, f.h, S.same.trans f.h, fun b o e n => by rw [n] at e; cases e⟩ (r.flat hd)
theorem evt_lend {p : Bool} (hm : Γ[m]? = some (.mem M)) (V : SlVs M M mem0 Γ Γ') (h : EvT B tt Γ' p) : EvT B tt Γ p := fun σ G H Q S q => by
  obtain ⟨s, S'⟩ := S.view (fun _ _ h => h) (fun _ _ z => by cases z) hm V
  exact h σ _ H Q S' fun G' H' f => q G H' ⟨Same.refl _, f.h, S.same.trans f.h, fun b o e n => by rw [n] at e; cases e⟩
end
end Z

/-! Z24: defs that change memory; instances in memory; methods. -/
namespace Z
open PySem PySem.Spec PyProof.Rows L2
abbrev FnM := List D → Mem → (D → Mem → Prop) → (Xc → Mem → Prop) → Prop
structure AftM (K : PySem.W.Frag) (M : Mem) (G H G' H' : Hp) (M' : Mem) : Prop where
  fw : FwF (fun a => M a ≠ none) G H G' H'
  ok : MemOk K G' H' M'
  nw : ∀ a w, M' a = some w → H a = none ∨ M a ≠ none
def spm (K : PySem.W.Frag) (F : FnM) : Sp := fun vs H Q E => ∃ (G : Hp) (ds : List D) (M : Mem) (R : D → Mem → Prop) (X : Xc → Mem → Prop), Same G H ∧ Rps K G vs ds ∧ MemOk K G H M ∧ F ds M R X ∧
  (∀ d v M' G' H', R d M' → AftM K M G H G' H' M' → Rp K G' v d → Q v H') ∧ (∀ x cls dd M' G' H', X x M' → AftM K M G H G' H' M' → XOk K G' x cls dd → E cls dd H')
theorem spm_len {K : PySem.W.Frag} {F : FnM} {n : Nat} (h : ∀ ds M R X, F ds M R X → ds.length = n) (vs : List V) (H : Hp) (Q : VK) (E : XK) (s : spm K F vs H Q E) : vs.length = n := by
  obtain ⟨G, ds, M, R, X, _, r, _, f, _⟩ := s
  rw [r.length, h ds M R X f]
section
variable {K : PySem.W.Frag} {B : Bx} {W : WX} {Γ Γ' : List Sl} {P : Po} {σ σ' : L2.St} {G G' H H' : Hp} {M N M' : Mem} {i j m n : Nat} {a : Addr} {w w' : Ow} {d e : D} {ds as : List D} {ks : List (Key × D)} {k : Key} {z : Int} {x : Str}
variable {te to ti tf : TE} {ta aa : TA} {tt tu : TT} {t u : TS} {kk : D → List Sl → Prop} {kx : Xc → List Sl → Prop}
theorem Stt.after (S : Stt B Γ σ G H) (hm : Γ[m]? = some (.mem M)) (A : AftM B.K M G H G' H' M') : Stt B (Γ.set m (.mem M')) σ G' H' := by
  have hil : m < Γ.length := (List.getElem?_eq_some_iff.mp hm).1
  have fr : ∀ c, M c ≠ none → B.H0 c = none ∨ B.F0 c := fun c h => by
    cases e : M c with
    | none => exact absurd e h
    | some w => exact S.nm m M c w hm e
  have mine : ∀ (j : Nat) (c : Addr), j ≠ m → Owns Γ σ j c → M c = none ∧ ∀ w, M' c ≠ some w := fun j c ne h => by
    have h1 : M c = none := by
      cases e : M c with
      | none => rfl
      | some w => exact absurd (S.ap j m c h (.inr ⟨M, w, hm, e⟩)) ne
    refine ⟨h1, fun w e => ?_⟩
    obtain ⟨_, ⟨u, hu⟩, _⟩ := S.owned h
    rcases A.nw c w e with q | q
    · rw [hu] at q; cases q
    · exact q h1
  have keep : ∀ (c : Addr) (u : HO), G c = none → H c = some u → M c = none → G' c = none ∧ H' c = some u := fun c u g h mc => by
    refine ⟨?_, A.fw.h c u h fun q => q mc⟩
    cases e : G' c with
    | none => rfl
    | some o =>
      rcases A.fw.n c o e g with q | q
      · rw [h] at q; cases q
      · exact absurd mc q
  have key : ∀ (j : Nat) (c : Addr), Owns (Γ.set m (.mem M')) σ j c → (j = m ∧ ∃ w, M' c = some w) ∨ (j ≠ m ∧ Owns Γ σ j c) := fun j c h => by
    by_cases e : j = m
    · subst e
      unfold Owns at h
      rw [List.getElem?_set_self hil] at h
      rcases h with ⟨o, h1, _⟩ | ⟨M2, w2, h1, h2⟩
      · cases h1
      · cases h1; exact .inl ⟨rfl, w2, h2⟩
    · exact .inr ⟨e, owns_neΓ e h⟩
  refine ⟨⟨S.fw.g.trans A.fw.g, fun c o q nf => ?_, fun c q => S.fw.l c (A.fw.l c q), A.fw.e, fun c o q n => ?_⟩, by simp [S.len], fun j s h => ?_, fun j k b h1 h2 => ?_, fun j o b h1 h2 => ?_, fun j M2 b w2 h1 h2 => ?_⟩
  · refine A.fw.h c o (S.fw.h c o q nf) fun mc => ?_
    rcases fr c mc with z | z
    · rw [q] at z; cases z
    · exact nf z
  · cases e : G c with
    | some o2 => exact S.fw.n c o2 e n
    | none =>
      rcases A.fw.n c o q e with z | z
      · exact .inl (S.fw.l c z)
      · exact fr c z
  · by_cases e : j = m
    · subst e
      rw [List.getElem?_set_self hil] at h
      cases h
      exact A.ok
    · rw [List.getElem?_set_ne (Ne.symm e)] at h
      have q := S.sl j s h
      cases s with
      | un => trivial
      | dat d => obtain ⟨v, e2, r2⟩ := q; exact ⟨v, e2, r2.mono A.fw.g⟩
      | own o =>
        obtain ⟨b, u2, e2, g2, z2, r2⟩ := q
        have oj : Owns Γ σ j b := .inl ⟨o, h, by
          cases q : σ[j]? with
          | none => rw [q] at e2; cases e2
          | some y => rw [q] at e2; exact congrArg some e2⟩
        obtain ⟨k1, k2⟩ := keep b u2 g2 z2 (mine j b e oj).1
        exact ⟨b, u2, e2, k1, k2, r2.mono A.fw.g⟩
      | mem M2 =>
        intro b w2 e2
        obtain ⟨g2, u2, z2, r2⟩ := q b w2 e2
        obtain ⟨k1, k2⟩ := keep b u2 g2 z2 (mine j b e (.inr ⟨M2, w2, h, e2⟩)).1
        exact ⟨k1, u2, k2, r2.mono A.fw.g⟩
  · rcases key j b h1 with ⟨rfl, w1, q1⟩ | ⟨n1, q1⟩
    · rcases key k b h2 with ⟨rfl, _⟩ | ⟨n2, q2⟩
      · rfl
      · exact absurd q1 ((mine k b n2 q2).2 w1)
    · rcases key k b h2 with ⟨rfl, w2, q2⟩ | ⟨n2, q2⟩
      · exact absurd q2 ((mine j b n1 q1).2 w2)
      · exact S.ap j k b q1 q2
  · by_cases e : j = m
    · subst e; rw [List.getElem?_set_self hil] at h1; cases h1
    · rw [List.getElem?_set_ne (Ne.symm e)] at h1; exact S.nw j o b h1 h2
  · by_cases e : j = m
    · subst e
      rw [List.getElem?_set_self hil] at h1
      cases h1
      rcases A.nw b w2 h2 with q | q
      · exact .inl (S.fr q)
      · exact fr b q
    · rw [List.getElem?_set_ne (Ne.symm e)] at h1; exact S.nm j M2 b w2 h1 h2
/-- a call of a def that changes memory -/
theorem eve_callS {F : FnM} (hm : Γ[m]? = some (.mem M)) (ha : EvA B aa Γ as) (hF : F as M (fun d M' => kk d (Γ.set m (.mem M'))) (fun x M' => kx x (Γ.set m (.mem M')))) : EvE B W (tCallS (spm B.K F) (WE W) aa) Γ kk kx := fun σ G H Q S q qx =>
  ha σ G H _ S fun vs G1 H1 f1 r1 => by
    have S1 := S.step f1
    exact ⟨G1, as, M, _, _, f1.e, r1, S1.mem hm, hF, fun d v M' G' H' k A r => q v d _ G' H' k (f1.g.trans A.fw.g) (S1.after hm A) r, fun x cls dd M' G' H' k A o => qx x cls dd _ G' H' k (f1.g.trans A.fw.g) (S1.after hm A) o⟩
theorem eve_call {F : FnM} (hm : Γ[m]? = some (.mem M)) (ha : EvA B aa Γ as) (hF : F as M (fun d M' => kk d (Γ.set m (.mem M'))) (fun _ _ => False)) : EvE B W (tCall (spm B.K F) [] E0 aa) Γ kk kx := fun σ G H Q S q qx =>
  ha σ G H _ S fun vs G1 H1 f1 r1 => by
    have S1 := S.step f1
    show spm B.K F (vs ++ []) H1 Q E0
    rw [List.append_nil]
    exact ⟨G1, as, M, _, _, f1.e, r1, S1.mem hm, hF, fun d v M' G' H' k A r => q v d _ G' H' k (f1.g.trans A.fw.g) (S1.after hm A) r, fun _ _ _ _ _ _ z => z.elim⟩
/-- arguments that change memory -/
theorem eve_callSE {F : FnM} (ha : EvAE B W aa Γ (fun as Γ1 => ∃ M1, Γ1[m]? = some (.mem M1) ∧ F as M1 (fun d M' => kk d (Γ1.set m (.mem M'))) (fun x M' => kx x (Γ1.set m (.mem M')))) kx) : EvE B W (tCallS (spm B.K F) (WE W) aa) Γ kk kx := fun σ G H Q S q qx =>
  ha σ G H _ S (fun vs ds Γ1 G1 H1 k s1 S1 r1 => by
    obtain ⟨M1, hm, hF⟩ := k
    exact ⟨G1, ds, M1, _, _, S1.same, r1, S1.mem hm, hF, fun d v M' G' H' k A r => q v d _ G' H' k (s1.trans A.fw.g) (S1.after hm A) r, fun x cls dd M' G' H' k A o => qx x cls dd _ G' H' k (s1.trans A.fw.g) (S1.after hm A) o⟩) qx
/-- a pure def, its arguments changing memory -/
theorem eve_callPE {F : Fn} (ha : EvAE B W aa Γ (fun as Γ1 => ∃ d, F as (fun s => s.toD = some d) (fun _ => False) ∧ kk d Γ1) kx) {E : L2.St → XK} : EvE B W (tCallS (spz B.K F) E aa) Γ kk kx := fun σ G H Q S q qx =>
  ha σ G H _ S (fun vs ds Γ1 G1 H1 k s1 S1 r1 => by
    obtain ⟨d, hF, k⟩ := k
    exact ⟨G1, ds, _, _, S1.same, r1, hF, fun s v G' H' hs f' rs => by
      obtain ⟨G2, f2, r2⟩ := rs_toD f' hs rs
      exact q v d Γ1 G2 H' k (s1.trans f2.g) (S1.step f2) r2, fun _ _ _ _ _ z => z.elim⟩) qx
/-- such a def where no memory is at hand, its answer data -/
theorem ev_callM {F : FnM} {E : L2.St → XK} (ha : EvA B aa Γ as) (hF : F as mem0 (fun c _ => c = d) (fun _ _ => False)) : Ev B (tCallS (spm B.K F) E aa) Γ d := fun σ G H Q S q =>
  ha σ G H _ S fun vs G1 H1 f1 r1 => ⟨G1, as, mem0, _, _, f1.e, r1, (fun _ _ z => nomatch z), hF, fun c v M' G' H' k A r => by
    subst k
    exact q v G' H' (f1.trans (A.fw.fw fun a z => z rfl)) r, fun _ _ _ _ _ _ z => z.elim⟩
theorem ev_callM0 {F : FnM} (ha : EvA B aa Γ as) (hF : F as mem0 (fun c _ => c = d) (fun _ _ => False)) : Ev B (tCall (spm B.K F) [] E0 aa) Γ d := fun σ G H Q S q =>
  ha σ G H _ S fun vs G1 H1 f1 r1 => by
    show spm B.K F (vs ++ []) H1 Q E0
    rw [List.append_nil]
    exact ⟨G1, as, mem0, _, _, f1.e, r1, (fun _ _ z => nomatch z), hF, fun c v M' G' H' k A r => by
      subst k
      exact q v G' H' (f1.trans (A.fw.fw fun a z => z rfl)) r, fun _ _ _ _ _ _ z => z.elim⟩
/-- a new instance in memory -/
theorem eve_mkM {F : FnM} {C : Addr} (hm : Γ[m]? = some (.mem M)) (ha : EvA B aa Γ as) (hF : ∀ a, M a = none → F (.ref a :: as) (ups M a (.ins C [] none)) (fun d M' => d = .non ∧ kk (.ref a) (Γ.set m (.mem M'))) (fun x M' => kx x (Γ.set m (.mem M')))) :
    EvE B W (tMkZ C (spm B.K F) (WE W) aa) Γ kk kx := fun σ G H Q S q qx =>
  ha σ G H _ S fun vs G1 H1 f1 r1 => fun a dx na ndx ne => by
    have S1 := S.step f1
    have nm : M a = none := fresh_mem (S := S1) hm na
    have S2 := S1.other (u := .own a) (S1.fr ndx) (S1.same.free ndx) (S1.apart ndx)
    have na2 : (upd H1 dx (.own a)) a = none := by rw [upd_ne (Ne.symm ne)]; exact na
    have S3 := S2.memNew (w := .ins C [] none) (u := .ins C dx []) hm na2 ⟨(fun _ z => nomatch z), dx, [], rfl, .nil⟩
    have hil : m < Γ.length := (List.getElem?_eq_some_iff.mp hm).1
    have hm3 : (Γ.set m (.mem (ups M a (.ins C [] none))))[m]? = some (.mem (ups M a (.ins C [] none))) := List.getElem?_set_self hil
    refine ⟨G1, .ref a :: as, _, _, _, S3.same, .cons (.ref a) r1, S3.mem hm3, hF a nm, fun d v M' G' H' k A r => ?_, fun x cls dd M' G' H' k A o => ?_⟩
    · obtain ⟨rfl, k⟩ := k
      cases r
      have S4 := S3.after hm3 A
      rw [List.set_set] at S4
      exact ⟨rfl, q (.ref a) (.ref a) _ G' H' k (f1.g.trans A.fw.g) S4 (.ref a)⟩
    · have S4 := S3.after hm3 A
      rw [List.set_set] at S4
      exact qx x cls dd _ G' H' k (f1.g.trans A.fw.g) S4 o
/-! the body of such a def: its last slot holds the memory -/
def iniM (N : List Str) (ds : List D) (M : Mem) : List Sl := ds.map Sl.dat ++ (List.replicate (N.length - ds.length - 1) Sl.un ++ [.mem M])
theorem iniM_eq {N : List Str} {ds : List D} {M : Mem} (h : ds.length < N.length) : iniM N ds M = (ini N ds).set (N.length - 1) (.mem M) := by
  unfold iniM ini
  have e : N.length - ds.length = (N.length - ds.length - 1) + 1 := by omega
  rw [e, List.replicate_succ', ← List.append_assoc, ← List.append_assoc, List.set_append_right _ _ (by simp; omega)]
  have e2 : N.length - 1 - (List.map Sl.dat ds ++ List.replicate (N.length - ds.length - 1) Sl.un).length = 0 := by simp; omega
  rw [e2]
  simp
theorem iniM_get {N : List Str} {ds : List D} {M : Mem} (h : ds.length < N.length) : (iniM N ds M)[N.length - 1]? = some (.mem M) := by
  rw [iniM_eq h, List.getElem?_set_self]
  unfold ini
  simp
  omega
theorem stt_startM {N : List Str} {vs : List V} (hl : ds.length < N.length) (s : Same G H) (r : Rps K G vs ds) (ok : MemOk K G H M) : Stt ⟨K, G, H, fun a => M a ≠ none⟩ (iniM N ds M) (L2.start N vs) G H := by
  have T : Stt ⟨K, G, H, NoF⟩ (ini N ds) (L2.start N vs) G H := stt_start s r
  have hli : N.length - 1 < (ini N ds).length := by unfold ini; simp; omega
  have no : ∀ (j : Nat) (c : Addr), ¬ Owns (ini N ds) (L2.start N vs) j c := fun j c h => by
    rcases h with ⟨o, h, _⟩ | ⟨M, w, h, _⟩
    · exact absurd h (ini_own N ds j o)
    · exact absurd h (ini_mem N ds j M)
  have key : ∀ (j : Nat) (c : Addr), Owns (iniM N ds M) (L2.start N vs) j c → j = N.length - 1 ∧ ∃ w, M c = some w := fun j c h => by
    rw [iniM_eq hl] at h
    by_cases e : j = N.length - 1
    · subst e
      unfold Owns at h
      rw [List.getElem?_set_self hli] at h
      rcases h with ⟨o, h1, _⟩ | ⟨M2, w2, h1, h2⟩
      · cases h1
      · cases h1; exact ⟨rfl, w2, h2⟩
    · exact absurd (owns_neΓ e h) (no j c)
  refine ⟨.refl s, by rw [T.len, iniM_eq hl, List.length_set], fun j t h => ?_, fun j k b h1 h2 => (key j b h1).1.trans (key k b h2).1.symm, fun j o b h1 h2 => ?_, fun j M2 b w2 h1 h2 => ?_⟩
  · rw [iniM_eq hl] at h
    by_cases e : j = N.length - 1
    · subst e
      rw [List.getElem?_set_self hli] at h
      cases h
      exact ok
    · rw [List.getElem?_set_ne (Ne.symm e)] at h
      exact T.sl j t h
  · obtain ⟨_, w, e⟩ := key j b (.inl ⟨o, h1, h2⟩)
    rw [iniM_eq hl] at h1
    by_cases e : j = N.length - 1
    · subst e; rw [List.getElem?_set_self hli] at h1; cases h1
    · rw [List.getElem?_set_ne (Ne.symm e)] at h1; exact absurd h1 (ini_own N ds j o)
  · obtain ⟨_, w, e⟩ := key j b (.inr ⟨M2, w2, h1, h2⟩)
    exact .inr (by show M b ≠ none; rw [e]; simp)
theorem sv_defM {F : FnM} {N : List Str} {vs : List V} {Q : VK} {E : XK} (h : spm K F vs H Q E) (hN : ∀ ds M R X, F ds M R X → ds.length < N.length)
    (hb : ∀ G ds M R X, F ds M R X → Sv ⟨K, G, H, fun a => M a ≠ none⟩ (fun cls d _ H' => E cls d H') t (iniM N ds M) { nx := fun Γ => ∃ M', Γ[N.length - 1]? = some (.mem M') ∧ R .non M', rt := fun _ => False, rm := R, xc := fun x Γ => ∃ M', Γ[N.length - 1]? = some (.mem M') ∧ X x M' }) : t { nx := fun _ H' => Q .non H', rt := Q } (L2.start N vs) H := by
  obtain ⟨G, ds, M, R, X, s, r, ok, f, q, qe⟩ := h
  have aft : ∀ (Γ : List Sl) σ G' H' (i : Nat) M', Γ[i]? = some (.mem M') → Stt ⟨K, G, H, fun a => M a ≠ none⟩ Γ σ G' H' → AftM K M G H G' H' M' := fun Γ σ G' H' i M' hi S => ⟨S.fw, S.mem hi, fun a w e => S.nm i M' a w hi e⟩
  refine hb G ds M R X f _ (L2.start N vs) G H ⟨fun Γ σ G' H' h _ S => ?_, fun _ _ _ _ z => z.elim, fun _ _ _ _ z => z.elim, fun s v G' H' h f r => h.elim, fun x Γ cls dd σ G' H' h _ S xo => ?_, fun d M' v i Γ σ G' H' k hi S r => ?_⟩ (stt_startM (hN ds M R X f) s r ok)
  · obtain ⟨M', hi, k⟩ := h
    exact q .non .non M' G' H' k (aft Γ σ G' H' _ M' hi S) .non
  · obtain ⟨M', hi, k⟩ := h
    exact qe x cls dd M' G' H' k (aft Γ σ G' H' _ M' hi S) xo
  · exact q d v M' G' H' k (aft Γ σ G' H' i M' hi S) r
end
/-! methods -/
def tMethO (C : Addr) (m : Str) (sp : Sp) (E : L2.St → XK) (ta : TE) (t : TA) : TE := fun σ H Q => ta σ H fun x H1 => ∃ a dx fs, x = .ref a ∧ H1 a = some (.ins C dx fs) ∧ fs.lookup m = none ∧ t σ H1 fun vs H2 => sp (x :: vs) H2 Q (E σ)
structure Dm (P : Program) (w : World) (K : PySem.W.Frag) (mg : Str → Option Value) (base : Heap) (C : Addr) (x : Str) (ps : List Str) (k : Nat) (sp : Sp) : Prop where
  cl : Cls K C
  ex : ∃ f fd, Meth K C x f ∧ FnOk P w K mg base (L2.CX P w) k f fd ps sp ∧ Binds K fd ps []
section
variable {X : Cx} {W : WX} {x : Str} {C : Addr} {ps : List Str} {k : Nat} {sp : Sp} {apos pos : Pos} {o e : Expr} {es : List Expr} {ta : TE} {t : TA}
theorem pe_methZ {pl : Sem Bool} (he : PE X o ta) (D : Dm X.prog X.w X.K X.mg X.base C x ps k sp) (hr : Room k X.A) (tk : Takes X W) (ha : PA X (e :: es) t)
    (hst : starEach (e :: es) X.env = (false, eval e X.env) :: starEach es X.env := by rfl) (hpl : (backTo pos (starEach es X.env)).any (·.1) = false := by rfl)
    (ht : eval (.Call (.Attribute o x apos) (e :: es) [] pos) X.env = (do
      let ov ← eval o X.env
      standAt apos.atName
      let (f, first) ← holding [ov] (getMethod ov x pl)
      callWith pos f first (backTo pos (starEach (e :: es) X.env)) (backToKw pos (keywordEach [] X.env))) := by rfl) :
    PE X (.Call (.Attribute o x apos) (e :: es) [] pos) (tMethO C x sp (WE W) ta t) := by
  obtain ⟨f, fd, hm, F, hb⟩ := D.ex
  refine ⟨fun pins s σ H Q I h => ?_⟩
  refine PySem.W.methodCall_KW (pl := pl) (thn (he.run pins s σ H _ I h) fun u s1 ⟨x, H1, I1, rx, a, dx, fs, ex, ea, l, q⟩ => ?_) ht
  subst ex
  obtain rfl : u = Value.ref a := rx
  refine getmeth_ok I1 ea D.cl hm l ?_
  refine PySem.W.callWith_K (first := [.ref a]) (h₀ := X.base) I.ok.mod.kin hm.kp (thn (ha.run pos pins s1 σ H1 _ I1 q) fun us s2 ⟨vs, H2, I2, r, q2⟩ => ⟨I2.kIn, ?_⟩) hst hpl
  exact run_fnSD (us := .ref a :: us) (vs := .ref a :: vs) F hr hb .nil (passAt tk σ) I2 (.cons rfl r) (by rw [List.append_nil]; exact q2)
theorem pe_methZ0 {pl : Sem Bool} (he : PE X o ta) (D : Dm X.prog X.w X.K X.mg X.base C x ps k sp) (hr : Room k X.A) (tk : Takes X W)
    (ht : eval (.Call (.Attribute o x apos) [] [] pos) X.env = (do
      let ov ← eval o X.env
      standAt apos.atName
      let (f, first) ← holding [ov] (getMethod ov x pl)
      callWith pos f first (backTo pos (starEach [] X.env)) (backToKw pos (keywordEach [] X.env))) := by rfl) :
    PE X (.Call (.Attribute o x apos) [] [] pos) (tMethO C x sp (WE W) ta tNil) := by
  obtain ⟨f, fd, hm, F, hb⟩ := D.ex
  refine ⟨fun pins s σ H Q I h => ?_⟩
  refine PySem.W.methodCall_KW (pl := pl) (thn (he.run pins s σ H _ I h) fun u s1 ⟨x, H1, I1, rx, a, dx, fs, ex, ea, l, q⟩ => ?_) ht
  subst ex
  obtain rfl : u = Value.ref a := rx
  refine getmeth_ok I1 ea D.cl hm l ?_
  exact PySem.W.callWith_K0 (first := [.ref a]) I1.kIn hm.kp (run_fnSD (us := [.ref a]) (vs := [.ref a]) F hr hb .nil (passAt tk σ) I1 (.cons rfl .nil) (by rw [List.append_nil]; exact q))
end
section
variable {B : Bx} {W : WX} {Γ : List Sl} {M : Mem} {m : Nat} {a C : Addr} {d : D} {ds as : List D} {fs : List (Str × D)} {x : Str} {to : TE} {aa : TA} {kk : D → List Sl → Prop} {kx : Xc → List Sl → Prop}
theorem Rfs.no {K : PySem.W.Frag} {G : Hp} : ∀ {vs : List (Str × V)} {ds : List (Str × D)} {f : Str}, Rfs K G vs ds → ds.lookup f = none → vs.lookup f = none
  | _, _, _, .nil, _ => rfl
  | _, _, f, .cons (f := g) h r, e => by
    rw [List.lookup_cons] at e
    rw [List.lookup_cons]
    by_cases q : f = g
    · have : (f == g) = true := by simpa using q
      simp only [this] at e
      cases e
    · have : (f == g) = false := by simpa using q
      simp only [this] at e ⊢
      exact Rfs.no r e
/-- o.m(..), o data -/
theorem ev_meth {F : Fn} {E : L2.St → XK} (ho : Ev B to Γ (.obj C fs)) (hl : fs.lookup x = none) (ha : EvA B aa Γ as) (hF : F (.obj C fs :: as) (fun s => s.toD = some d) (fun _ => False)) : Ev B (tMethO C x (spz B.K F) E to aa) Γ d := fun σ G H Q S q =>
  ho σ G H _ S fun v G1 H1 f1 r1 => by
    cases r1 with
    | obj h1 r1 =>
      rename_i p dx xs
      refine ⟨p, dx, xs, rfl, f1.e _ _ h1, r1.no hl, ha σ G1 H1 _ (S.step f1) fun vs G2 H2 f2 r2 => ?_⟩
      exact ⟨G2, _, _, _, f2.e, .cons (.obj (f2.g _ _ h1) (r1.mono f2.g)) r2, hF, fun s v G' H' hs f' rs => by
        obtain ⟨G3, f3, r3⟩ := rs_toD f' hs rs
        exact q v G3 H' ((f1.trans f2).trans f3) r3, fun _ _ _ _ _ z => z.elim⟩
/-- o.m(..), o in memory -/
theorem eve_meth {F : FnM} (hm : Γ[m]? = some (.mem M)) (ho : Ev B to Γ (.ref a)) (ho2 : M a = some (.ins C fs none)) (hl : fs.lookup x = none) (ha : EvA B aa Γ as) (hF : F (.ref a :: as) M (fun d M' => kk d (Γ.set m (.mem M'))) (fun x M' => kx x (Γ.set m (.mem M')))) :
    EvE B W (tMethO C x (spm B.K F) (WE W) to aa) Γ kk kx := fun σ G H Q S q qx =>
  ho σ G H _ S fun v G1 H1 f1 r1 => by
    cases r1
    have S1 := S.step f1
    obtain ⟨g, u, hu, ⟨_, dx, xs, rfl, rr⟩⟩ := S1.atM hm ho2
    refine ⟨a, dx, xs, rfl, hu, rr.no hl, ha σ G1 H1 _ S1 fun vs G2 H2 f2 r2 => ?_⟩
    have S2 := S1.step f2
    exact ⟨G2, _, M, _, _, f2.e, .cons (.ref a) r2, S2.mem hm, hF, fun d v M' G' H' k A r => q v d _ G' H' k ((f1.g.trans f2.g).trans A.fw.g) (S2.after hm A) r, fun x cls dd M' G' H' k A o => qx x cls dd _ G' H' k ((f1.g.trans f2.g).trans A.fw.g) (S2.after hm A) o⟩
end
end Z

/-! Z25: more rules: keys of a new dict walked, extend by a tuple, displays, pops. -/
namespace Z
open PySem PySem.Spec PyProof.Rows L2
open PySem.AutoSeq1 in
theorem list_extend_tupW (l : Addr) (items : Array Value) (n : Nat) (b : Addr) (items2 : Array Value) (n2 : Nat) (dd : Option Addr) (sl : Array (Option Value)) (hs0 : ¬(!items.isEmpty && Builtin.List.listTooLong (items.size + items2.size)) = true) (hs1 : items.size ≤ sizeLine) (hs2 : items.size + items2.size ≤ sizeLine + 1) :
    Meets (Builtin.«list.extend» ⟨[.ref l, .ref b], []⟩) (fun _ R s => s.heap.get? l = some { cls := .type "list", dict := none, data := .seq items n, slots := #[] } ∧ s.heap.get? b = some { cls := .type "tuple", dict := dd, data := .seq items2 n2, slots := sl } ∧ R (.ok (.ret Value.none)) { s with heap := s.heap.update l (Obj.mapSeq fun x => x ++ items2), toks := s.toks }) :=
  .of_wp fun prog w A R s h => by
    obtain ⟨hp, g, d, tk, os⟩ := s; obtain ⟨hl, hb, h⟩ := h; have f1 := idx_int; have f2 := AutoSeq1.sub_tuple_tuple; have f3 := AutoSeq1.sub_list_list; have f4 := AutoSeq1.sub_tuple_list; have f5 := AutoSeq1.sub_list_tuple;
    have hz' : (items ++ items2).size ≤ sizeLine + 1 := by rw [Array.size_append]; exact hs2
    wp_walk using (wpAny_updateSeq hl rfl (hz := hs1) (_hz' := hz')), wpAny_loadPart' hl, wpAny_loadPart' hb; exact ⟨_, rfl, h⟩
def rExtendT (K : PySem.W.Frag) : V → List V → Hp → VK → Prop := fun x vs H Q => ∃ l b xs zs, x = .ref l ∧ vs = [.ref b] ∧ H l = some (.lst xs) ∧ SqT K H b zs ∧ xs.length + zs.length ≤ sizeLine ∧ Q .non (upd H l (.lst (xs ++ zs)))
theorem mt_extendT {X : Cx} : MtR X "list.extend" (rExtendT X.K) := by
  intro pins s σ H x vs v us Q I rx rv h
  obtain ⟨l, b, xs, zs, rfl, rfl, hH, hB, hz, q⟩ := h
  cases rx
  obtain ⟨u, rfl, ru⟩ := rv.one
  cases ru
  obtain ⟨z, its, n, r, hl, e⟩ := I.lstM hH
  obtain ⟨its2, r2, ⟨⟨cls2, dd2, data2, sl2⟩, ho2, hc2, n2, hd2⟩, hz2⟩ := I.tuple hB
  simp only at hc2 hd2
  subst hc2 hd2
  have e1 := r.length
  have e2 := r2.length
  have hsz : its.toArray.size + its2.toArray.size ≤ sizeLine := by rw [List.size_toArray, List.size_toArray]; omega
  have hlong : ¬ (!its.toArray.isEmpty && Builtin.List.listTooLong (its.toArray.size + its2.toArray.size)) = true := by
    rw [notLongL hsz, Bool.and_false]
    exact Bool.false_ne_true
  refine call_meets F.slot_list_extend ⟨_, e, rfl⟩ F.entry_list_extend (F.args_list_extend_2 _ _)
    (list_extend_tupW l its.toArray n b its2.toArray n2 dd2 sl2 hlong (by rw [List.size_toArray]; omega) (by omega)) ⟨e, ho2, ?_⟩
  refine ⟨.non, _, I.lset (its' := its ++ its2) hH e (by simp) (r.append r2) ?_, rfl, q⟩
  rw [List.length_append]
  omega
def zExtend (K : PySem.W.Frag) : V → List V → Hp → VK → Prop := fun x vs H Q => rExtend x vs H Q ∨ rExtendT K x vs H Q
theorem mt_zExtend {X : Cx} : MtR X "list.extend" (zExtend X.K) := by
  intro pins s σ H x vs v us Q I rx rv h
  rcases h with h | h
  · exact mt_extend pins s σ H x vs v us Q I rx rv h
  · exact mt_extendT pins s σ H x vs v us Q I rx rv h
/-! keys of a new dict -/
def iKeysO (td : TE) : TI := fun σ H R => td σ H fun x H1 => ∃ d kvs, x = .ref d ∧ H1 d = some (.dK kvs) ∧ ∀ o, R (Itk d o kvs) (upd H1 d (.frz o (.dK kvs)))
theorem pi_keysO {X : Cx} {tg e : Expr} {td : TE} (he : PE X e td) : PI X tg e (iKeysO td) := by
  refine ⟨fun pins s σ H R I h => ?_⟩
  refine thn (he.run pins s σ H _ I h) fun u s1 ⟨x, H1, I1, rx, d, kvs, ex, hd, q⟩ => ?_
  subst ex
  obtain rfl : u = Value.ref d := rx
  obtain ⟨od, I2⟩ := I1.lock hd trivial
  obtain ⟨hs, hgd, hx, es, ep, vs, hdt, hsz, kv, hm⟩ := I2.frzK (o := od) (kvs := kvs) upd_same
  refine iter_keys hs hgd hx hdt (pi_one (tk := s1.toks) I2 _ (turn_keys _ hdt) ⟨_, Heap.get?_push_size _ rfl, rfl, ?_⟩ (q od))
  rw [hsz] <;> rfl
section
variable {B : Bx} {W : WX} {Γ Γ' : List Sl} {P : Po} {te ta tb tk tv td to : TE} {aa : TA} {d e : D} {ds as bs : List D} {ks : List (Key × D)} {k : Key} {i n m : Nat} {M : Mem} {kk : D → List Sl → Prop} {kx : Xc → List Sl → Prop} {a : Addr}
theorem rks_key {K : PySem.W.Frag} {G : Hp} : ∀ {vs : List (Key × V)} {dd : List (Key × D)} {i : Nat} {k : Key} {v : V}, Rks K G vs dd → vs[i]? = some (k, v) → (dd.map fun kv => kD kv.1)[i]? = some (kD k)
  | _, _, _, _, _, .nil, e => by simp at e
  | _, _, 0, _, _, .cons _ _, e => by
    rw [List.getElem?_cons_zero] at e
    cases e
    rfl
  | _, _, i + 1, _, _, .cons _ r, e => by
    rw [List.getElem?_cons_succ] at e
    rw [List.map_cons, List.getElem?_cons_succ]
    exact rks_key r e
theorem evi_keysO (h : EvO B td Γ (.dk ks)) : EvI B (iKeysO td) Γ (ks.map fun kv => kD kv.1) := fun σ G H R S q =>
  h σ G H _ S fun a u G1 H1 f g n e ⟨kvs, hu, r⟩ => by
    subst hu
    refine ⟨a, kvs, rfl, e, fun o => ?_⟩
    have hl := r.length
    refine q _ (upd G1 a (.frz o (.dK kvs))) _ ⟨fun b x y => ?_, fun b x y => ?_, fun b x y => ?_, fun b x y z => ?_⟩ ⟨_, _, by rw [List.length_map, ← hl]; exact walk_keys, fun G H s1 s2 => s2 _ _ (s1 _ _ upd_same), fun i H x H' G hi s1 s2 y => ?_⟩
    · rw [upd_ne (ne_of_none (f.g b x y) g)]; exact f.g b x y
    · rw [upd_ne (ne_of_none y n)]; exact f.h b x y
    · by_cases z : b = a
      · subst z; rw [upd_same] at y ⊢; exact y
      · rw [upd_ne z] at y ⊢; exact f.e b x y
    · by_cases c : b = a
      · subst c; exact n
      · rw [upd_ne c] at y; exact f.n b x y z
    · obtain ⟨rfl, k, v, h1, rfl⟩ := y
      have key := fun {i k v} => rks_key (i := i) (k := k) (v := v) r
      refine ⟨kD k, G, key h1, .refl s2, ?_⟩
      cases k with
      | inl z => exact .int z
      | inr z => exact .str z
/-- {k: v} -/
theorem evo_disp0 : True := trivial
theorem evo_disp1 (hk : Ev B tk Γ (kD k)) (hv : Ev B tv Γ d) : EvO B (tDisp [(tk, tv)]) Γ (.dk [(k, d)]) := fun σ G H Q S q p hp => by
  have S0 := S.other (u := .dK []) (S.fr hp) (S.same.free hp) (S.apart hp)
  refine hk σ G _ _ S0 fun x G1 H1 f1 r1 => hv σ G1 H1 _ (S0.step f1) fun y G2 H2 f2 r2 => ?_
  have ey := rp_key r1
  subst ey
  have f := f1.trans f2
  have hp2 : H2 p = some (.dK []) := f.h _ _ upd_same
  have gp : G2 p = none := f.gone (S.same.free hp) upd_same
  refine ⟨hp2, [(k, y)], rfl, by show 1 ≤ 15; decide, ?_⟩
  refine q p (.dK [(k, y)]) G2 _ ⟨f.g, fun b o e => ?_, fun b o e => ?_, fun b o e z => ?_⟩ gp hp upd_same ⟨_, rfl, .cons r2 .nil⟩
  · have ne := ne_of_none e hp
    rw [upd_ne ne]; exact f.h b o (by rw [upd_ne ne]; exact e)
  · rw [upd_ne (ne_of_none e gp)]; exact f.e b o e
  · have := f.n b o e z
    by_cases c : b = p
    · subst c; exact hp
    · rw [upd_ne c] at this; exact this
/-- xs.pop() of a name's own list -/
theorem eve_pop (hn : Γ[n]? = some (.own (.lst (as ++ [d])))) (k : kk d (Γ.set n (.own (.lst as)))) : EvE B W (tBM0 B.K "list" rPop (tVar n)) Γ kk kx := fun σ G H Q S q qx => by
  obtain ⟨a, u, e, g, hh, ⟨xs, hu, rr⟩, h0⟩ := S.own hn
  subst hu
  obtain ⟨v, hv, rv⟩ := rr.get (i := as.length) (d := d) (by simp)
  have hl : xs.length = as.length + 1 := by rw [rr.length]; simp
  refine ⟨.ref a, e, .inl ⟨rfl, xs, .inl (.inl hh)⟩, a, xs, v, rfl, rfl, hh, by rw [hl]; exact hv, ?_⟩
  refine q v d _ G _ k (Same.refl _) (S.mut hn e ⟨_, rfl, ?_⟩) rv
  have := rr.take as.length
  rw [List.take_left'] at this
  · rw [List.dropLast_eq_take, hl]; exact this
  · rfl
/-- d.get(k, x), the key by what changes -/
theorem eve_dget2 (hd : Ev B td Γ (.dk ks)) (hk : EvE B W tk Γ (fun d Γ1 => ∃ k e, d = kD k ∧ Ev B te Γ1 e ∧ kk ((valD ks k).getD e) Γ1) kx) : EvE B W (tDGet2 td tk te) Γ kk kx := fun σ G H Q S q qx =>
  hd σ G H _ S fun v1 G1 H1 f1 r1 => by
    cases r1 with
    | dk h1 r1 =>
      have S1 := S.step f1
      refine ⟨_, rfl, .inl ⟨_, same_r f1.e h1⟩, hk σ G1 H1 _ S1 (fun v2 d Γ2 G2 H2 k s2 S2 r2 => ?_) fun x cls dd Γ2 G2 H2 k2 s2 => qx x cls dd Γ2 G2 H2 k2 (f1.g.trans s2)⟩
      obtain ⟨k, e, rfl, he, k⟩ := k
      refine he σ G2 H2 _ S2 fun v3 G3 H3 f3 r3 => ?_
      have ey := rp_key r2
      subst ey
      have rr := r1.mono (s2.trans f3.g)
      have S3 := S2.step f3
      refine ⟨_, .inl ⟨_, _, same_r ((s2.trans f3.g).trans S3.same) h1, rfl, rfl⟩, ?_⟩
      cases e1 : valD ks _ with
      | none => rw [rr.miss e1]; exact q _ _ _ G3 H3 k ((f1.g.trans s2).trans f3.g) S3 (by rw [e1]; exact r3)
      | some d =>
        obtain ⟨v, h, rv⟩ := rr.val e1
        rw [h]; exact q v _ _ G3 H3 k ((f1.g.trans s2).trans f3.g) S3 (by rw [e1]; exact rv)
/-- a for whose list is made by what changes -/
theorem sv_forE {α : Type} (enc : α → D) (xs : List α) {g : TG} {tb : TS} (V : List α → List Sl → Prop) (hi : EvE B W te Γ (fun d Γ1 => d = .lst (xs.map enc) ∧ V xs Γ1) P.xc) (hd : ∀ Γ', V [] Γ' → P.nx Γ')
    (hs : ∀ x r Γ', (∃ pre, xs = pre ++ x :: r) → V (x :: r) Γ' → ∃ Γ2, EvG B g Γ' (enc x) Γ2 ∧ Sv B W tb Γ2 { P with nx := V r, ct := V r, bk := P.nx }) : Sv B W (tFor (iList B.K te) g tb) Γ P := fun D σ G H E S => by
  refine hi σ G H _ S (fun v d Γ1 G1 H1 k s1 S1 r1 => ?_) fun x cls dd Γ1 G1 H1 k s1 S1 o => E.xc x Γ1 cls dd σ G1 H1 k s1 S1 o
  obtain ⟨rfl, k⟩ := k
  cases r1 with
  | lst h1 r1 =>
  refine ⟨_, rfl, ⟨_, same_l S1.same h1⟩, ?_⟩
  obtain ⟨Gd, Y, w, hG, hy⟩ : Wk B.K G1 (Itl B.K _) (xs.map enc) := wk_at walk_list (fun G H s1 s2 => same_l (s1.trans s2) h1) r1
  rw [List.length_map] at w
  rw [List.length_map] at hy
  refine for_it w (fun i σ' H' => ∃ Γ' G', V (xs.drop i) Γ' ∧ Stt B Γ' σ' G' H' ∧ Same G1 G') ⟨Γ1, G1, k, S1, Same.refl _⟩ (fun i σ' H' _ p => ?_) (fun i x σ' H' H2 hlt p y => ?_) (fun σ' H' p => ?_)
  · obtain ⟨Γ', G', _, S', s'⟩ := p
    exact hG G' H' s' S'.same
  · obtain ⟨Γ', G', hv, S', s'⟩ := p
    obtain ⟨d, G2, hd', f2, r2⟩ := hy i H' x H2 G' hlt s' S'.same y
    rw [List.getElem?_map, List.getElem?_eq_getElem hlt] at hd'
    have hd2 : enc xs[i] = d := Option.some.inj hd'
    subst hd2
    have hdrop : xs.drop i = xs[i] :: xs.drop (i + 1) := List.drop_eq_getElem_cons hlt
    rw [hdrop] at hv
    obtain ⟨Γ2, hg, hb⟩ := hs xs[i] (xs.drop (i + 1)) Γ' ⟨xs.take i, by rw [← hdrop]; exact (List.take_append_drop i xs).symm⟩ hv
    refine hg σ' G2 H2 x _ (S'.step f2) r2 fun σ2 S2 => ?_
    have sG : Same G1 G2 := s'.trans f2.g
    refine hb _ σ2 G2 H2 ⟨fun Γ3 σ3 G3 H3 q s3 S3 => ⟨Γ3, G3, q, S3, sG.trans s3⟩, fun Γ3 σ3 G3 H3 q s3 S3 => E.nx Γ3 σ3 G3 H3 q ((s1.trans sG).trans s3) S3, fun Γ3 σ3 G3 H3 q s3 S3 => ⟨Γ3, G3, q, S3, sG.trans s3⟩, E.rt,
      fun x Γ c dd σ G' H' q s3 => E.xc x Γ c dd σ G' H' q ((s1.trans sG).trans s3), E.rm⟩ S2
  · obtain ⟨Γ', G', hv, S', s'⟩ := p
    rw [List.drop_length] at hv
    exact E.nx Γ' σ' G' H' (hd Γ' hv) (s1.trans s') S'
end
end Z

/-! Z26: in for flat items, own lists extended and reversed, kinds. -/
namespace Z
open PySem PySem.Spec PyProof.Rows L2
def flD : D → Bool
  | .non => true | .bl _ => true | .int _ => true | .str _ => true | _ => false
def toV : D → V
  | .non => .non | .bl b => .bl b | .int i => .int i | .str x => .str x | _ => .non
theorem rp_toV {K : PySem.W.Frag} {G : Hp} {v : V} {d : D} (h : flD d = true) (r : Rp K G v d) : v = toV d := by
  cases r <;> first | rfl | cases h
theorem rps_toV {K : PySem.W.Frag} {G : Hp} : ∀ {vs : List V} {ds : List D}, ds.all flD = true → Rps K G vs ds → vs = ds.map toV
  | _, _, _, .nil => rfl
  | _, _, h, .cons r rs => by
    rw [List.all_cons, Bool.and_eq_true] at h
    rw [List.map_cons, rp_toV h.1 r, rps_toV h.2 rs]
theorem flat_toV : ∀ {d : D}, flD d = true → flatV (toV d) = true := by
  intro d h
  cases d <;> first | rfl | cases h
theorem all_toV : ∀ {ds : List D}, ds.all flD = true → (ds.map toV).all flatV = true
  | [], _ => rfl
  | d :: r, h => by
    rw [List.all_cons, Bool.and_eq_true] at h
    rw [List.map_cons, List.all_cons, flat_toV h.1, all_toV h.2]
    rfl
section
variable {B : Bx} {W : WX} {Γ Γ' : List Sl} {P : Po} {te ta tb tk tv td to : TE} {aa : TA} {d e : D} {ds as bs : List D} {n m : Nat} {M : Mem} {kk : D → List Sl → Prop} {kx : Xc → List Sl → Prop} {a : Addr}
theorem rv_inFL (h1 : flD d = true) (h2 : ds.all flD = true) : RV B (zIn B.K false) d (.lst ds) (.bl (inV (toV d) (ds.map toV))) := fun x y G H Q s rx ry q => by
  have ex := rp_toV h1 rx
  subst ex
  cases ry with
  | lst h r =>
    have e := rps_toV h2 r
    subst e
    exact .inr (.inl ⟨_, _, rfl, .inl (same_l s h), flat_toV h1, all_toV h2, q _ G H (.refl s) (.bl _)⟩)
theorem rv_inFU (h1 : flD d = true) (h2 : ds.all flD = true) : RV B (zIn B.K false) d (.tup ds) (.bl (inV (toV d) (ds.map toV))) := fun x y G H Q s rx ry q => by
  have ex := rp_toV h1 rx
  subst ex
  cases ry with
  | tup h r =>
    have e := rps_toV h2 r
    subst e
    exact .inr (.inl ⟨_, _, rfl, .inr (same_t s h), flat_toV h1, all_toV h2, q _ G H (.refl s) (.bl _)⟩)
theorem rv_ninFL (h1 : flD d = true) (h2 : ds.all flD = true) : RV B (zIn B.K true) d (.lst ds) (.bl (!inV (toV d) (ds.map toV))) := fun x y G H Q s rx ry q => by
  have ex := rp_toV h1 rx
  subst ex
  cases ry with
  | lst h r =>
    have e := rps_toV h2 r
    subst e
    exact .inr (.inl ⟨_, _, rfl, .inl (same_l s h), flat_toV h1, all_toV h2, q _ G H (.refl s) (.bl _)⟩)
theorem rv_ninFU (h1 : flD d = true) (h2 : ds.all flD = true) : RV B (zIn B.K true) d (.tup ds) (.bl (!inV (toV d) (ds.map toV))) := fun x y G H Q s rx ry q => by
  have ex := rp_toV h1 rx
  subst ex
  cases ry with
  | tup h r =>
    have e := rps_toV h2 r
    subst e
    exact .inr (.inl ⟨_, _, rfl, .inr (same_t s h), flat_toV h1, all_toV h2, q _ G H (.refl s) (.bl _)⟩)
theorem inV_int (i : Int) : ∀ ns : List Int, inV (.int i) ((ns.map D.int).map toV) = decide (i ∈ ns)
  | [] => rfl
  | n :: r => by
    have ih := inV_int i r
    unfold inV at ih ⊢
    rw [List.map_cons, List.map_cons, List.any_cons, ih]
    show (eqV (.int n) (.int i) || decide (i ∈ r)) = _
    rw [Bool.eq_iff_iff]
    simp [eqV]
    constructor <;> rintro (h | h) <;> first | exact .inl h.symm | exact .inr h
theorem all_flI (ns : List Int) : (ns.map D.int).all flD = true := by
  induction ns with
  | nil => rfl
  | cons n r ih => rw [List.map_cons, List.all_cons, ih]; rfl
theorem rv_inI {i : Int} {ns : List Int} : RV B (zIn B.K false) (.int i) (.lst (ns.map .int)) (.bl (decide (i ∈ ns))) := by
  have h := rv_inFL (B := B) (d := .int i) (ds := ns.map .int) rfl (all_flI ns)
  rw [show toV (.int i) = .int i from rfl, inV_int] at h
  exact h
theorem rv_ninI {i : Int} {ns : List Int} : RV B (zIn B.K true) (.int i) (.lst (ns.map .int)) (.bl (!decide (i ∈ ns))) := by
  have h := rv_ninFL (B := B) (d := .int i) (ds := ns.map .int) rfl (all_flI ns)
  rw [show toV (.int i) = .int i from rfl, inV_int] at h
  exact h
/-- xs.extend(t) of a name's own list -/
theorem sv_extU (hi : Γ[n]? = some (.own (.lst as))) (h : Ev B te Γ (.tup ds)) (hl : as.length + ds.length ≤ 16777216) (hs : SetAt Γ n (.own (.lst (as ++ ds))) Γ') (k : P.nx Γ') : Sv B W (tDrop (tBM B.K "list" (zExtend B.K) (tVar n) (tCons te tNil))) Γ P := fun D σ G H E S => by
  obtain ⟨a, u, e, g, hh, ⟨xs, hu, r⟩, h0⟩ := S.own hi
  subst hu
  refine ⟨.ref a, e, .inl ⟨rfl, xs, .inl (.inl hh)⟩, ?_⟩
  refine h σ G H _ S fun v G1 H1 f rv => ?_
  cases rv with
  | tup h1 r1 =>
    refine .inr ⟨a, _, xs, _, rfl, rfl, f.h _ _ hh, same_t f.e h1, by rw [r.length, r1.length]; exact line_le hl, ?_⟩
    obtain ⟨_, rfl⟩ := hs.eq
    exact E.nx _ _ G1 _ k f.g ((S.step f).mut hi e ⟨_, rfl, (r.mono f.g).append r1⟩)
/-- xs[::-1], one's own -/
theorem evo_revL {K : PySem.W.Frag} (hK : K = B.K) (h : Ev B te Γ (.lst ds)) : EvO B (tRevL K te) Γ (.lst ds.reverse) := fun σ G H Q S q => by
  subst hK
  refine h σ G H _ S fun v G1 H1 f r => ?_
  cases r with
  | lst h1 r1 => exact ⟨_, _, rfl, same_l f.e h1, fun p hp => q p (.lst _) G1 _ (f.trans (Fw.newO f.e hp)) (f.e.free hp) (f.h.free hp) upd_same ⟨_, rfl, r1.reverse⟩⟩
theorem ev_revL {K : PySem.W.Frag} (hK : K = B.K) (h : Ev B te Γ (.lst ds)) : Ev B (tRevL K te) Γ (.lst ds.reverse) := Ev.of_own (evo_revL hK h)
end
end Z

/-! Z27: dict comprehensions; comprehensions of two names. -/
namespace Z
open PySem PySem.Spec PyProof.Rows L2
theorem dc_it {J : It} {n : Nat} {G : Hp → Prop} {Y : Nat → Hp → V → Hp → Prop} (w : Walk J n G Y) {g : TG} {tt : TT} {tk tv : TE} {vs : List Nat} {σ : L2.St} {H1 : Hp} {D : Addr} {Qd : Hp → Prop} (Pv : Nat → Hp → Prop) (h0 : Pv 0 (upd H1 D (.dK []))) (hG : ∀ i H, i ≤ n → Pv i H → G H)
    (hs : ∀ i x H H', i < n → Pv i H → Y i H x H' → g x (L2.wipe σ vs) H' fun σ2 H2 => L2.wipe σ2 vs = L2.wipe σ vs ∧ tt σ2 H2 fun b H3 =>
      if b = true then tk σ2 H3 fun y H4 => tv σ2 H4 fun z H5 => ∃ kvs k, y = kV k ∧ H5 D = some (.dK kvs) ∧ kvs.length < sizeLine ∧ Pv (i + 1) (upd H5 D (.dK (putK kvs k z))) else Pv (i + 1) H3) (hd : ∀ H, Pv n H → Qd H) :
    ∃ W : Nat → Nat → Hp → Prop, (∃ m, W 0 m (upd H1 D (.dK []))) ∧ ∀ i m H, W i m H →
      (J.stop i H ∧ Qd H) ∨ (J.go i H ∧ ∃ Nx : Hp → Prop, (∀ H', Nx H' → ∃ m', m' < m ∧ W (i + 1) m' H') ∧ ∀ x H', J.yld i H x H' → g x (L2.wipe σ vs) H' fun σ2 H2 => L2.wipe σ2 vs = L2.wipe σ vs ∧ tt σ2 H2 fun b H3 =>
        if b = true then tk σ2 H3 fun y H4 => tv σ2 H4 fun z H5 => ∃ kvs k, y = kV k ∧ H5 D = some (.dK kvs) ∧ kvs.length < sizeLine ∧ Nx (upd H5 D (.dK (putK kvs k z))) else Nx H3) := by
  refine ⟨fun i m H => m = n - i ∧ i ≤ n ∧ Pv i H, ⟨n, by simp, Nat.zero_le _, h0⟩, ?_⟩
  rintro i m H ⟨rfl, hi, hp⟩
  rcases Nat.lt_or_ge i n with h | h
  · exact .inr ⟨w.goes i H h (hG i H hi hp), fun H' => Pv (i + 1) H', fun H' q => ⟨n - (i + 1), by omega, rfl, h, q⟩, fun x H' y => hs i x H H' h hp (w.yields i H x H' h (hG i H hi hp) y)⟩
  · obtain rfl : i = n := Nat.le_antisymm hi h
    exact .inl ⟨w.stops H (hG i H hi hp), hd H hp⟩
section
variable {B : Bx} {W : WX} {Γ Γ' : List Sl} {P : Po} {te ta tb tk tv td to : TE} {tt : TT} {wi : TI} {g : TG} {aa : TA} {d e : D} {ds as bs : List D}
def dcD {α : Type} (f : α → Bool) (kf : α → Key) (v : α → D) (xs : List α) (acc : List (Key × D)) : List (Key × D) := (xs.filter f).foldl (fun acc x => putD acc (kf x) (v x)) acc
theorem putD_len (ks : List (Key × D)) (k : Key) (d : D) : (putD ks k d).length ≤ ks.length + 1 := by
  unfold putD
  split
  · rw [List.length_map]; omega
  · simp
theorem dcD_len {α : Type} (f : α → Bool) (kf : α → Key) (v : α → D) : ∀ (xs : List α) (acc : List (Key × D)), (dcD f kf v xs acc).length ≤ acc.length + xs.length
  | [], acc => by simp [dcD]
  | x :: r, acc => by
    unfold dcD
    rw [List.filter_cons]
    cases h : f x with
    | true =>
      have := dcD_len f kf v r (putD acc (kf x) (v x))
      have := putD_len acc (kf x) (v x)
      unfold dcD at *
      simp only [if_true, List.foldl_cons, List.length_cons]
      omega
    | false =>
      have := dcD_len f kf v r acc
      unfold dcD at *
      simp only [List.length_cons, Bool.false_eq_true, if_false]
      omega
theorem dcD_snoc {α : Type} (f : α → Bool) (kf : α → Key) (v : α → D) (xs : List α) (x : α) (acc : List (Key × D)) : dcD f kf v (xs ++ [x]) acc = if f x then putD (dcD f kf v xs acc) (kf x) (v x) else dcD f kf v xs acc := by
  unfold dcD
  rw [List.filter_append, List.foldl_append, List.filter_cons]
  cases f x <;> rfl
theorem evo_dc {α : Type} (enc : α → D) (xs : List α) (f : α → Bool) (kf : α → Key) (v : α → D) {vs : List Nat} (hi : EvI B wi Γ (xs.map enc)) (hv : ∀ n ∈ vs, n < Γ.length) (hl : xs.length < 16777216)
    (hs : ∀ x ∈ xs, ∃ Γx, EvGw B g vs (wipeS Γ vs) (enc x) Γx ∧ EvT B tt Γx (f x) ∧ (f x = true → Ev B tk Γx (kD (kf x)) ∧ Ev B tv Γx (v x))) : EvO B (tDc wi g tt tk tv vs) Γ (.dk (dcD f kf v xs [])) := fun σ G H Q S q => by
  refine hi σ G H _ S fun J G1 H1 fw w Dl hD => ?_
  obtain ⟨Gd, Y, w, hG, hy⟩ := w
  rw [List.length_map] at w
  rw [List.length_map] at hy
  have S1 := S.step fw
  have h0D : B.H0 Dl = none := S1.fr hD
  have gD : G1 Dl = none := S1.same.free hD
  have apD := S1.apart hD
  have fresh : H Dl = none := fw.h.free hD
  refine dc_it w (fun i H' => ∃ G' acc, Same G1 G' ∧ Stt B Γ σ G' H' ∧ G' Dl = none ∧ H' Dl = some (.dK acc) ∧ Rks B.K G' acc (dcD f kf v (xs.take i) []) ∧ Fw G H G' H') ?_ (fun i H' _ p => ?_) (fun i x H' H2 hlt p y => ?_) (fun H' p => ?_)
  · exact ⟨G1, [], Same.refl _, S1.other h0D gD apD, gD, upd_same, .nil, fw.trans (Fw.newO S1.same hD)⟩
  · obtain ⟨G', acc, s', S', _⟩ := p
    exact hG G' H' s' S'.same
  · obtain ⟨G', acc, s', S', g', hacc, r', fa⟩ := p
    obtain ⟨d, G2, hd', f2, r2⟩ := hy i H' x H2 G' hlt s' S'.same y
    rw [List.getElem?_map, List.getElem?_eq_getElem hlt] at hd'
    have hd2 : enc xs[i] = d := Option.some.inj hd'
    subst hd2
    have ht : xs.take (i + 1) = xs.take i ++ [xs[i]] := List.take_succ_eq_append_getElem hlt
    obtain ⟨Γx, hg, htt, hte⟩ := hs xs[i] (List.getElem_mem hlt)
    refine hg σ G2 H2 x _ ((S'.step f2).wipe vs hv) r2 fun σ2 hw S2 => ⟨hw, ?_⟩
    refine htt σ2 G2 H2 _ S2 fun G3 H3 f3 => ?_
    have f23 := f2.trans f3
    cases hb : f xs[i] with
    | false =>
      show ∃ G' acc, _
      refine ⟨G3, acc, s'.trans f23.g, S'.step f23, f23.gone g' hacc, f23.h _ _ hacc, ?_, fa.trans f23⟩
      rw [ht, dcD_snoc, hb]
      simpa using r'.mono f23.g
    | true =>
      obtain ⟨hk, hv2⟩ := hte hb
      refine hk σ2 G3 H3 _ (S2.step f3) fun y G4 H4 f4 r4 => ?_
      refine hv2 σ2 G4 H4 _ ((S2.step f3).step f4) fun z G5 H5 f5 r5 => ?_
      have ey := rp_key r4
      subst ey
      have f25 := (f23.trans f4).trans f5
      have hacc5 := f25.h _ _ hacc
      have g5 := f25.gone g' hacc
      refine ⟨acc, kf xs[i], rfl, hacc5, ?_, G5, _, s'.trans f25.g, (S'.step f25).other h0D g5 apD, g5, upd_same, ?_, ?_⟩
      · have e1 := r'.length
        have e2 := dcD_len f kf v (xs.take i) []
        have e3 : (xs.take i).length ≤ xs.length := by rw [List.length_take]; omega
        simp only [List.length_nil] at e2
        exact line_lt (by omega)
      · rw [ht, dcD_snoc, hb]
        exact (r'.mono f25.g).put r5
      · have fb := fa.trans f25
        refine ⟨fb.g, fun b o e => ?_, fun b o e => ?_, fb.n⟩
        · rw [upd_ne (ne_of_none e fresh)]; exact fb.h b o e
        · rw [upd_ne (ne_of_none e g5)]; exact fb.e b o e
  · obtain ⟨G', acc, s', S', g', hacc, r', fa⟩ := p
    rw [List.take_length] at r'
    exact q Dl (.dK acc) G' H' fa g' fresh hacc ⟨acc, rfl, r'⟩
theorem evo_dc1 {α : Type} (enc : α → D) (xs : List α) (kf : α → Key) (v : α → D) {i : Nat} (hi : EvI B wi Γ (xs.map enc)) (hlen : i < Γ.length) (hl : xs.length < 16777216)
    (hs : ∀ x ∈ xs, Ev B tk (Γ.set i (.dat (enc x))) (kD (kf x)) ∧ Ev B tv (Γ.set i (.dat (enc x))) (v x)) : EvO B (tDc wi (gName i) tYes tk tv [i]) Γ (.dk (dcD (fun _ => true) kf v xs [])) :=
  evo_dc enc xs (fun _ => true) kf v hi (by simpa using hlen) hl fun x hx => ⟨_, evgw_name (SetAt.of (by rw [wipeS_len]; exact hlen)), evt_yes, fun _ => by
    have e : (wipeS Γ [i]).set i (.dat (enc x)) = Γ.set i (.dat (enc x)) := by show (Γ.set i .un).set i _ = _; rw [List.set_set]
    rw [e]; exact hs x hx⟩
theorem set_comm4 {α : Type} (l : List α) {i j : Nat} (h : i ≠ j) (a b c d : α) : (((l.set j a).set i b).set i c).set j d = (l.set i c).set j d := by
  rw [List.set_set, List.set_comm _ _ (Ne.symm h), List.set_set]
/-- of two names -/
theorem evo_lc2 {α : Type} (d1 d2 : α → D) (xs : List α) (f : α → Bool) (v : α → D) {i j : Nat} (h : i ≠ j) (hi : EvI B wi Γ (xs.map fun x => .tup [d1 x, d2 x])) (hli : i < Γ.length) (hlj : j < Γ.length) (hl : xs.length < 16777216)
    (hs : ∀ x ∈ xs, EvT B tt ((Γ.set i (.dat (d1 x))).set j (.dat (d2 x))) (f x) ∧ (f x = true → Ev B te ((Γ.set i (.dat (d1 x))).set j (.dat (d2 x))) (v x))) : EvO B (tLc wi (gTup B.K 2 (gCons (gName i) (gCons (gName j) gNil))) tt te [i, j]) Γ (.lst ((xs.filter f).map v)) :=
  evo_lc (fun x => .tup [d1 x, d2 x]) xs f v hi (by simp; exact ⟨hli, hlj⟩) hl fun x hx => ⟨_, evgw_two h (SetAt.of (by rw [wipeS_len]; exact hli)) (SetAt.of (by rw [List.length_set, wipeS_len]; exact hlj)), by
    have e : ((wipeS Γ [i, j]).set i (.dat (d1 x))).set j (.dat (d2 x)) = (Γ.set i (.dat (d1 x))).set j (.dat (d2 x)) := by
      show (((Γ.set j .un).set i .un).set i _).set j _ = _
      exact set_comm4 Γ h _ _ _ _
    rw [e]; exact hs x hx⟩
theorem evo_map2 {α : Type} (d1 d2 : α → D) (xs : List α) (v : α → D) {i j : Nat} (h : i ≠ j) (hi : EvI B wi Γ (xs.map fun x => .tup [d1 x, d2 x])) (hli : i < Γ.length) (hlj : j < Γ.length) (hl : xs.length < 16777216)
    (hs : ∀ x ∈ xs, Ev B te ((Γ.set i (.dat (d1 x))).set j (.dat (d2 x))) (v x)) : EvO B (tLc wi (gTup B.K 2 (gCons (gName i) (gCons (gName j) gNil))) tYes te [i, j]) Γ (.lst (xs.map v)) := by
  have := evo_lc2 (tt := tYes) (te := te) d1 d2 xs (fun _ => true) v h hi hli hlj hl fun x hx => ⟨evt_yes, fun _ => hs x hx⟩
  rw [List.filter_eq_self.mpr (fun _ _ => rfl)] at this
  exact this
theorem atI_map {α β : Type} {l : List α} {f : α → β} {i : Int} (x0 : α) (h0 : 0 ≤ i) (h1 : i < (l.length : Nat)) : atI (l.map f) i = some (f (l.getD i.toNat x0)) := by
  have hlt : i.toNat < l.length := by omega
  have h : atI (l.map f) ((i.toNat : Nat) : Int) = some (f (l.getD i.toNat x0)) := atI_ofNat (by rw [List.getElem?_map, List.getD_eq_getElem?_getD, List.getElem?_eq_getElem hlt]; rfl)
  rwa [Int.toNat_of_nonneg h0] at h
theorem rks_keys {K : PySem.W.Frag} {G : Hp} : ∀ {vs : List (Key × V)} {dd : List (Key × D)}, Rks K G vs dd → vs.map (·.1) = dd.map (·.1)
  | _, _, .nil => rfl
  | _, _, .cons _ r => by rw [List.map_cons, List.map_cons, rks_keys r]
/-- the sorted keys of a dict -/
theorem rc_sortedDI {ks : List (Key × D)} {ns ms : List Int} (hk : ks.map (·.1) = ns.map Sum.inl) (hl : ns.length < 64) (hp : ms.Perm ns) (hs : ms.Pairwise (· ≤ ·)) : RC B (zSorted B.K) [.dk ks] (.lst (ms.map .int)) := fun xs G H Q s r q => by
  cases r with
  | cons r1 r2 =>
    cases r2
    cases r1 with
    | dk h1 r1 =>
      rename_i a kvs
      have hk2 : kvs.map (·.1) = ns.map Sum.inl := by
        rw [← hk]; exact rks_keys r1
      refine .inr ⟨a, kvs, ns, rfl, same_r s h1, hk2, hl, fun ys p hy hs2 hp2 => ?_⟩
      have e : ys = ms := by
        have hperm : ys.Perm ms := hy.trans hp.symm
        exact hperm.eq_of_pairwise (le := (· ≤ ·)) (fun a b _ _ h1 h2 => Int.le_antisymm h1 h2) hs2 hs
      subst e
      exact q _ _ _ (Fw.new s hp2) (.lst (.inl (.inl upd_same)) (rps_ints ys))
end
end Z

/-! Z28: a list or a tuple walked; equality of data with itself. -/
namespace Z
open PySem PySem.Spec PyProof.Rows L2
def iSeq (K : PySem.W.Frag) (te : TE) : TI := fun σ H R => iList K te σ H R ∨ iTup K te σ H R
theorem pi_seq {X : Cx} {tg e : Expr} {te : TE} (he : PE X e te) : PI X tg e (iSeq X.K te) :=
  ⟨fun pins s σ H R I h => h.elim ((pi_list he).run pins s σ H R I) ((pi_tup he).run pins s σ H R I)⟩
section
variable {B : Bx} {Γ : List Sl} {te : TE} {ds : List D} {d e : D}
theorem evi_seqL (h : Ev B te Γ (.lst ds)) : EvI B (iSeq B.K te) Γ ds := fun σ G H R S q => .inl (evi_list h σ G H R S q)
theorem evi_seqU (h : Ev B te Γ (.tup ds)) : EvI B (iSeq B.K te) Γ ds := fun σ G H R S q => .inr (evi_tup h σ G H R S q)
def strB (x : Str) : Bool := PyData.strOk x
def layD : Nat → D → Bool
  | _, .non => true
  | _, .bl _ => true
  | _, .int _ => true
  | _, .str x => strB x
  | n + 1, .lst l => l.all (layD n)
  | n + 1, .tup l => l.all (layD n)
  | _, _ => false
theorem layD_py : ∀ (n : Nat) (d : D), layD n d = true → ∃ u, d.py = some u ∧ u.canLay0 = true ∧ u.depth ≤ n
  | _, .non, _ => ⟨.none, rfl, by simp [PyData.canLay0], by simp [PyData.depth]⟩
  | _, .bl b, _ => ⟨.bool b, rfl, by simp [PyData.canLay0], by simp [PyData.depth]⟩
  | _, .int i, _ => ⟨.int i, rfl, by simp [PyData.canLay0], by simp [PyData.depth]⟩
  | m, .str x, h => ⟨.str x, rfl, by
      have h : strB x = true := by cases m <;> exact h
      simp [PyData.canLay0]; exact h, by simp [PyData.depth]⟩
  | 0, .lst l, h => by simp [layD] at h
  | m, .obj _ _, h => by cases m <;> cases h
  | m, .ty _, h => by cases m <;> cases h
  | m, .ref _, h => by cases m <;> cases h
  | m, .xc _ _ _, h => by cases m <;> cases h
  | m, .dk _, h => by cases m <;> cases h
  | 0, .tup l, h => by simp [layD] at h
  | n + 1, .lst l, h => by
    have h : l.all (layD n) = true := h
    have key : ∀ l : List D, l.all (layD n) = true → ∃ us, pyAll l = some us ∧ PyData.canLayAll0 us = true ∧ PyData.depthAll us ≤ n := by
      intro l
      induction l with
      | nil => intro _; exact ⟨[], rfl, by simp [PyData.canLayAll0], by simp [PyData.depthAll]⟩
      | cons d r ih =>
        intro h
        rw [List.all_cons, Bool.and_eq_true] at h
        obtain ⟨u, h1, h2, h3⟩ := layD_py n d h.1
        obtain ⟨us, h4, h5, h6⟩ := ih h.2
        refine ⟨u :: us, ?_, by simp [PyData.canLayAll0, h2, h5], ?_⟩
        · show (D.py d).bind (fun p => (pyAll r).map fun q => p :: q) = _
          rw [h1, h4]; rfl
        · simp [PyData.depthAll]; omega
    obtain ⟨us, h1, h2, h3⟩ := key l h
    refine ⟨.list us, ?_, by simp [PyData.canLay0, h2], by simp [PyData.depth]; omega⟩
    show (pyAll l).map PyData.list = _
    rw [h1]; rfl
  | n + 1, .tup l, h => by
    have h : l.all (layD n) = true := h
    have key : ∀ l : List D, l.all (layD n) = true → ∃ us, pyAll l = some us ∧ PyData.canLayAll0 us = true ∧ PyData.depthAll us ≤ n := by
      intro l
      induction l with
      | nil => intro _; exact ⟨[], rfl, by simp [PyData.canLayAll0], by simp [PyData.depthAll]⟩
      | cons d r ih =>
        intro h
        rw [List.all_cons, Bool.and_eq_true] at h
        obtain ⟨u, h1, h2, h3⟩ := layD_py n d h.1
        obtain ⟨us, h4, h5, h6⟩ := ih h.2
        refine ⟨u :: us, ?_, by simp [PyData.canLayAll0, h2, h5], ?_⟩
        · show (D.py d).bind (fun p => (pyAll r).map fun q => p :: q) = _
          rw [h1, h4]; rfl
        · simp [PyData.depthAll]; omega
    obtain ⟨us, h1, h2, h3⟩ := key l h
    refine ⟨.tuple us, ?_, by simp [PyData.canLay0, h2], by simp [PyData.depth]; omega⟩
    show (pyAll l).map PyData.tuple = _
    rw [h1]; rfl
theorem rv_eqSame {n : Nat} (h : layD n d = true) (hn : n ≤ 64) : RV B (zEq B.K) d d (.bl true) := by
  obtain ⟨u, h1, h2, h3⟩ := layD_py n d h
  have hs : SeqAt.shaped u = true := by unfold SeqAt.shaped; rw [h2, decide_eq_true (by omega : u.depth ≤ 64)]; rfl
  have := rv_eqD (B := B) h1 h1 hs hs
  rwa [SeqAt.eqv_refl u h2] at this
theorem rv_neSame {n : Nat} (h : layD n d = true) (hn : n ≤ 64) : RV B (zNe B.K) d d (.bl false) := by
  obtain ⟨u, h1, h2, h3⟩ := layD_py n d h
  have hs : SeqAt.shaped u = true := by unfold SeqAt.shaped; rw [h2, decide_eq_true (by omega : u.depth ≤ 64)]; rfl
  have := rv_neD (B := B) h1 h1 hs hs
  rwa [SeqAt.eqv_refl u h2] at this
theorem lay_ints (n : Nat) (ns : List Int) : layD (n + 1) (.lst (ns.map .int)) = true := by
  show (ns.map D.int).all (layD n) = true
  induction ns with
  | nil => rfl
  | cons x r ih =>
    rw [List.map_cons, List.all_cons, ih]
    cases n <;> rfl
end
end Z

/-! Z29: calls whose answer is left open. -/
namespace Z
open PySem PySem.Spec PyProof.Rows L2
section
variable {B : Bx} {W : WX} {Γ Γ' : List Sl} {P : Po} {te ta tb tk tv td to : TE} {tb' : TS} {tt : TT} {wi : TI} {g : TG} {aa : TA} {d e : D} {ds as bs : List D} {kk : D → List Sl → Prop} {kx : Xc → List Sl → Prop} {i j m n : Nat} {M : Mem} {a : Addr} {w : Ow}
theorem eve_callF {F : Fn} (ha : EvA B aa Γ as) (hF : F as (fun s => ∃ d, s.toD = some d ∧ kk d Γ) (fun x => kx x Γ)) : EvE B W (tCallS (spz B.K F) (WE W) aa) Γ kk kx := fun σ G H Q S q qx =>
  ha σ G H _ S fun vs G1 H1 f1 r1 => ⟨G1, as, _, _, f1.e, r1, hF, fun s v G' H' ⟨d, hs, k⟩ f' rs => by
    obtain ⟨G2, f2, r2⟩ := rs_toD f' hs rs
    exact q v d Γ G2 H' k (f1.g.trans f2.g) ((S.step f1).step f2) r2, fun x cls dd G' H' k f' o => qx x cls dd Γ G' H' k (f1.g.trans f'.g) ((S.step f1).step f') o⟩
theorem eve_callF0 {F : Fn} (ha : EvA B aa Γ as) (hF : F as (fun s => ∃ d, s.toD = some d ∧ kk d Γ) (fun _ => False)) : EvE B W (tCall (spz B.K F) [] E0 aa) Γ kk kx := fun σ G H Q S q qx =>
  ha σ G H _ S fun vs G1 H1 f1 r1 => by
    show spz B.K F (vs ++ []) H1 Q E0
    rw [List.append_nil]
    exact ⟨G1, as, _, _, f1.e, r1, hF, fun s v G' H' ⟨d, hs, k⟩ f' rs => by
      obtain ⟨G2, f2, r2⟩ := rs_toD f' hs rs
      exact q v d Γ G2 H' k (f1.g.trans f2.g) ((S.step f1).step f2) r2, fun _ _ _ _ _ z => z.elim⟩
def EvON (B : Bx) (te : TE) (Γ : List Sl) (Qw : Ow → Prop) : Prop := ∀ σ G H Q, Stt B Γ σ G H → (∀ w a u G' H', Qw w → Fw G H G' H' → G' a = none → H a = none → H' a = some u → OwOk B.K G' a w u → Q (.ref a) H') → te σ H Q
theorem evon_callS {F : Fn} {E : L2.St → XK} {Qw : Ow → Prop} (ha : EvA B aa Γ as) (hF : F as (fun s => ∃ w, s = .own w ∧ Qw w) (fun _ => False)) : EvON B (tCallS (spz B.K F) E aa) Γ Qw := fun σ G H Q S q =>
  ha σ G H _ S fun vs G1 H1 f1 r1 => ⟨G1, as, _, _, f1.e, r1, hF, fun s v G' H' ⟨w, hs, k⟩ f' rs => by
    subst hs
    obtain ⟨p, u, rfl, g, n, h, o⟩ := rs
    exact q w p u G' H' k (f1.trans f') g (f1.h.free n) h o, fun _ _ _ _ _ z => z.elim⟩
def EvIN (B : Bx) (wi : TI) (Γ : List Sl) (Qe : List D → Prop) : Prop := ∀ σ G H R, Stt B Γ σ G H → (∀ J G1 H1 es, Qe es → Fw G H G1 H1 → Wk B.K G1 J es → R J H1) → wi σ H R
theorem evin_of (h : EvI B wi Γ ds) {Qe : List D → Prop} (k : Qe ds) : EvIN B wi Γ Qe := fun σ G H R S q => h σ G H R S fun J G1 H1 f w => q J G1 H1 ds k f w
theorem evin_list {Qe : List D → Prop} (h : EvE B W0 te Γ (fun d Γ1 => Γ1 = Γ ∧ ∃ es, d = .lst es ∧ Qe es) (fun _ _ => False)) : True := trivial
theorem evin_keysO {Qe : List D → Prop} (h : EvON B td Γ (fun w => ∃ ks, w = .dk ks ∧ Qe (ks.map fun kv => kD kv.1))) : EvIN B (iKeysO td) Γ Qe := fun σ G H R S q =>
  h σ G H _ S fun w a u G1 H1 k f g n e o => by
    obtain ⟨ks, rfl, k⟩ := k
    obtain ⟨kvs, rfl, r⟩ := o
    refine ⟨a, kvs, rfl, e, fun o => ?_⟩
    have hl := r.length
    refine q _ (upd G1 a (.frz o (.dK kvs))) _ _ k ⟨fun b x y => ?_, fun b x y => ?_, fun b x y => ?_, fun b x y z => ?_⟩ ⟨_, _, by rw [List.length_map, ← hl]; exact walk_keys, fun G H s1 s2 => s2 _ _ (s1 _ _ upd_same), fun i H x H' G hi s1 s2 y => ?_⟩
    · rw [upd_ne (ne_of_none (f.g b x y) g)]; exact f.g b x y
    · rw [upd_ne (ne_of_none y n)]; exact f.h b x y
    · by_cases z : b = a
      · subst z; rw [upd_same] at y ⊢; exact y
      · rw [upd_ne z] at y ⊢; exact f.e b x y
    · by_cases c : b = a
      · subst c; exact n
      · rw [upd_ne c] at y; exact f.n b x y z
    · obtain ⟨rfl, k, v, h1, rfl⟩ := y
      refine ⟨kD k, G, rks_key r h1, .refl s2, ?_⟩
      cases k with
      | inl z => exact .int z
      | inr z => exact .str z
theorem sv_forN {α : Type} (enc : α → D) {tb : TS} (V : List α → List α → List Sl → Prop) (hi : EvIN B wi Γ (fun es => ∃ xs : List α, es = xs.map enc ∧ V xs xs Γ)) (hd : ∀ xs Γ', V xs [] Γ' → P.nx Γ')
    (hs : ∀ xs x r Γ', (∃ pre, xs = pre ++ x :: r) → V xs (x :: r) Γ' → ∃ Γ2, EvG B g Γ' (enc x) Γ2 ∧ Sv B W tb Γ2 { P with nx := V xs r, ct := V xs r, bk := P.nx }) : Sv B W (tFor wi g tb) Γ P := fun D σ G H E S => by
  refine hi σ G H _ S fun J G1 H1 es ⟨xs, he, h0⟩ f w => ?_
  subst he
  obtain ⟨Gd, Y, w, hG, hy⟩ := w
  rw [List.length_map] at w
  rw [List.length_map] at hy
  refine for_it w (fun i σ' H' => ∃ Γ' G', V xs (xs.drop i) Γ' ∧ Stt B Γ' σ' G' H' ∧ Same G1 G') ⟨Γ, G1, h0, S.step f, Same.refl _⟩ (fun i σ' H' _ p => ?_) (fun i x σ' H' H2 hlt p y => ?_) (fun σ' H' p => ?_)
  · obtain ⟨Γ', G', _, S', s'⟩ := p
    exact hG G' H' s' S'.same
  · obtain ⟨Γ', G', hv, S', s'⟩ := p
    obtain ⟨d, G2, hd', f2, r2⟩ := hy i H' x H2 G' hlt s' S'.same y
    rw [List.getElem?_map, List.getElem?_eq_getElem hlt] at hd'
    have hd2 : enc xs[i] = d := Option.some.inj hd'
    subst hd2
    have hdrop : xs.drop i = xs[i] :: xs.drop (i + 1) := List.drop_eq_getElem_cons hlt
    rw [hdrop] at hv
    obtain ⟨Γ2, hg, hb⟩ := hs xs xs[i] (xs.drop (i + 1)) Γ' ⟨xs.take i, by rw [← hdrop]; exact (List.take_append_drop i xs).symm⟩ hv
    refine hg σ' G2 H2 x _ (S'.step f2) r2 fun σ2 S2 => ?_
    have sG : Same G1 G2 := s'.trans f2.g
    refine hb _ σ2 G2 H2 ⟨fun Γ3 σ3 G3 H3 q s3 S3 => ⟨Γ3, G3, q, S3, sG.trans s3⟩, fun Γ3 σ3 G3 H3 q s3 S3 => E.nx Γ3 σ3 G3 H3 q ((f.g.trans sG).trans s3) S3, fun Γ3 σ3 G3 H3 q s3 S3 => ⟨Γ3, G3, q, S3, sG.trans s3⟩, E.rt,
      fun x Γ c dd σ G' H' q s3 => E.xc x Γ c dd σ G' H' q ((f.g.trans sG).trans s3), E.rm⟩ S2
  · obtain ⟨Γ', G', hv, S', s'⟩ := p
    rw [List.drop_length] at hv
    exact E.nx Γ' σ' G' H' (hd xs Γ' hv) (f.g.trans s') S'
theorem ups_self {M : Mem} {a : Addr} {w : Ow} (h : M a = some w) : ups M a w = M := by
  funext b
  by_cases e : b = a
  · subst e; rw [ups_same, h]
  · rw [ups_ne e]
theorem ixN_of {n : Nat} {i : Int} (h0 : 0 ≤ i) (h1 : i < (n : Nat)) : ixN n i = some i.toNat := by
  have h2 : i.toNat < n := by omega
  unfold ixN
  simp [h0, h1]
end
end Z

/-! Z30: answers left open, within expressions. -/
namespace Z
open PySem PySem.Spec PyProof.Rows L2
section
variable {B : Bx} {W : WX} {Γ Γ' : List Sl} {P : Po} {te ta tb : TE} {tt : TT} {aa : TA} {d e : D} {ds as bs : List D} {i j m n : Nat} {r : R2} {p : Bool}
def EvDN (B : Bx) (te : TE) (Γ : List Sl) (Qd : D → Prop) : Prop := ∀ σ G H Q, Stt B Γ σ G H → (∀ v d G' H', Qd d → Fw G H G' H' → Rp B.K G' v d → Q v H') → te σ H Q
theorem evdn_of {Qd : D → Prop} (h : Ev B te Γ d) (k : Qd d) : EvDN B te Γ Qd := fun σ G H Q S q => h σ G H Q S fun v G' H' f r => q v d G' H' k f r
theorem ev_of_dn (h : EvDN B te Γ (fun x => x = d)) : Ev B te Γ d := fun σ G H Q S q => h σ G H Q S fun v x G' H' k f r => by subst k; exact q v G' H' f r
theorem evdn_mono {Qd Qe : D → Prop} (h : EvDN B te Γ Qd) (k : ∀ d, Qd d → Qe d) : EvDN B te Γ Qe := fun σ G H Q S q => h σ G H Q S fun v d G' H' a => q v d G' H' (k d a)
theorem evdn_callS {F : Fn} {E : L2.St → XK} {Qd : D → Prop} (ha : EvA B aa Γ as) (hF : F as (fun s => ∃ d, s.toD = some d ∧ Qd d) (fun _ => False)) : EvDN B (tCallS (spz B.K F) E aa) Γ Qd := fun σ G H Q S q =>
  ha σ G H _ S fun vs G1 H1 f1 r1 => ⟨G1, as, _, _, f1.e, r1, hF, fun s v G' H' ⟨d, hs, k⟩ f' rs => by
    obtain ⟨G2, f2, r2⟩ := rs_toD f' hs rs
    exact q v d G2 H' k (f1.trans f2) r2, fun _ _ _ _ _ z => z.elim⟩
theorem evdn_call {F : Fn} {Qd : D → Prop} (ha : EvA B aa Γ as) (hF : F as (fun s => ∃ d, s.toD = some d ∧ Qd d) (fun _ => False)) : EvDN B (tCall (spz B.K F) [] E0 aa) Γ Qd := fun σ G H Q S q =>
  ha σ G H _ S fun vs G1 H1 f1 r1 => by
    show spz B.K F (vs ++ []) H1 Q E0
    rw [List.append_nil]
    exact ⟨G1, as, _, _, f1.e, r1, hF, fun s v G' H' ⟨d, hs, k⟩ f' rs => by
      obtain ⟨G2, f2, r2⟩ := rs_toD f' hs rs
      exact q v d G2 H' k (f1.trans f2) r2, fun _ _ _ _ _ z => z.elim⟩
theorem evdn_op {Qd : D → Prop} (ha : EvDN B ta Γ (fun a => EvDN B tb Γ (fun b => ∃ c, RV B r a b c ∧ Qd c))) : EvDN B (tOp r ta tb) Γ Qd := fun σ G H Q S q =>
  ha σ G H _ S fun x a G1 H1 k f1 r1 => k σ G1 H1 _ (S.step f1) fun y b G2 H2 ⟨c, hr, k2⟩ f2 r2 => hr x y G2 H2 Q f2.e (r1.mono f2.g) r2 fun v G3 H3 f3 r3 => q v c G3 H3 k2 ((f1.trans f2).trans f3) r3
theorem evtn_test (h : EvDN B te Γ (fun d => d = .bl p)) : EvT B (tTest te) Γ p := evt_test (ev_of_dn h)
theorem evtn_b (h : EvDN B te Γ (fun d => d = .bl p)) : EvT B (tB te) Γ p := evt_b (ev_of_dn h)
theorem sv_setN (h : EvDN B te Γ (fun d => ∃ Γ2, SetAt Γ i (.dat d) Γ2 ∧ P.nx Γ2)) : Sv B W (tAsg te (gName i)) Γ P := fun D σ G H E S =>
  h σ G H _ S fun v d G1 H1 ⟨Γ2, hs, k⟩ f r => by
    obtain ⟨hi, rfl⟩ := hs.eq
    exact E.nx _ _ G1 H1 k f.g ((S.step f).set hi r)
theorem sv_setON (h : EvON B te Γ (fun w => ∃ Γ2, SetAt Γ i (.own w) Γ2 ∧ P.nx Γ2)) : Sv B W (tAsg te (gName i)) Γ P := fun D σ G H E S =>
  h σ G H _ S fun w a u G1 H1 ⟨Γ2, hs, k⟩ f g n e o => by
    obtain ⟨hi, rfl⟩ := hs.eq
    exact E.nx _ _ G1 H1 k f.g ((S.step f).setO hi g e o (S.fr n) fun j _ => S.apart n j)
theorem evon_of {Qw : Ow → Prop} {w : Ow} (h : EvO B te Γ w) (k : Qw w) : EvON B te Γ Qw := fun σ G H Q S q => h σ G H Q S fun a u G1 H1 f g n e o => q w a u G1 H1 k f g n e o
theorem evon_addL {K : PySem.W.Frag} (hK : K = B.K) {Qw : Ow → Prop} (ha : Ev B ta Γ (.lst as)) (hb : EvDN B tb Γ (fun d => ∃ bs, d = .lst bs ∧ as.length + bs.length ≤ 16777216 ∧ Qw (.lst (as ++ bs)))) : EvON B (tOp (zAdd K) ta tb) Γ Qw := fun σ G H Q S q => by
  subst hK
  refine ha σ G H _ S fun x G1 H1 f1 r1 => hb σ G1 H1 _ (S.step f1) fun y d G2 H2 ⟨bs, hd, hl, k⟩ f2 r2 => ?_
  subst hd
  have r1 := r1.mono f2.g
  cases r1 with
  | lst h1 r1 =>
    cases r2 with
    | lst h2 r2 =>
      have f := f1.trans f2
      exact .inr (.inr (.inl ⟨_, _, _, _, rfl, rfl, same_l f2.e h1, same_l f2.e h2, by rw [r1.length, r2.length]; exact line_le hl, fun p hp => q (.lst (as ++ bs)) p (.lst _) G2 _ k (f.trans (Fw.newO f.e hp)) (f.e.free hp) (f.h.free hp) upd_same ⟨_, rfl, r1.append r2⟩⟩))
theorem sv_appN (hi : Γ[i]? = some (.own (.lst ds))) (h : EvDN B te Γ (fun d => ∃ Γ', SetAt Γ i (.own (.lst (ds ++ [d]))) Γ' ∧ P.nx Γ')) (hl : ds.length < 16777216) : Sv B W (tDrop (tBM B.K "list" rAppend (tVar i) (tCons te tNil))) Γ P := fun D σ G H E S => by
  obtain ⟨a, u, e, g, hh, ⟨xs, hu, r⟩, h0⟩ := S.own hi
  subst hu
  refine ⟨.ref a, e, .inl ⟨rfl, xs, .inl (.inl hh)⟩, ?_⟩
  refine h σ G H _ S fun v d G1 H1 ⟨Γ', hs, k⟩ f rv => ?_
  refine ⟨a, xs, v, rfl, rfl, f.h _ _ hh, by rw [r.length]; exact line_lt hl, ?_⟩
  obtain ⟨_, rfl⟩ := hs.eq
  exact E.nx _ _ G1 _ k f.g ((S.step f).mut hi e ⟨_, rfl, (r.mono f.g).append (.cons rv .nil)⟩)
end
end Z

/-! Z31: more reads of one's own. -/
namespace Z
open PySem PySem.Spec PyProof.Rows L2
section
variable {B : Bx} {W : WX} {Γ Γ' : List Sl} {n : Nat} {ks : List (Key × D)}
theorem ev_sortedO {K : PySem.W.Frag} (hK : K = B.K) {ns ms : List Int} (hn : Γ[n]? = some (.own (.dk ks))) (hk : ks.map (·.1) = ns.map Sum.inl) (hl : ns.length < 64) (hp : ms.Perm ns) (hs : ms.Pairwise (· ≤ ·)) : Ev B (tCB (zSorted K) (tCons (tVar n) tNil)) Γ (.lst (ms.map .int)) := fun σ G H Q S q => by
  subst hK
  obtain ⟨a, u, e, g, hh, ⟨kvs, hu, r⟩, h0⟩ := S.own hn
  subst hu
  have hk2 : kvs.map (·.1) = ns.map Sum.inl := by rw [← hk]; exact rks_keys r
  refine ⟨.ref a, e, .inr ⟨a, kvs, ns, rfl, .inl hh, hk2, hl, fun ys p hy hs2 hp2 => ?_⟩⟩
  have e : ys = ms := (hy.trans hp.symm).eq_of_pairwise (le := (· ≤ ·)) (fun a b _ _ h1 h2 => Int.le_antisymm h1 h2) hs2 hs
  subst e
  exact q _ _ _ (Fw.new S.same hp2) (.lst (.inl (.inl upd_same)) (rps_ints ys))
end
end Z

/-! Z32: str(i), int(text), f-strings, split, a tuple many times. -/
namespace Z
open PySem PySem.Spec PyProof.Rows L2
def itxt (i : Int) : List Nat := (toString i).toList.map Char.toNat
theorem str_itxt (i : Int) : PySem.Str.ofString (toString i) = tx (itxt i) := PySem.Str.ofString_eq_toList _
def zStr : List V → Hp → VK → Prop := fun xs H Q => ∃ i, xs = [.int i] ∧ i.natAbs.log2 < 1920 ∧ Q (.str (toString i)) H
theorem call_zStr {X : Cx} : CallR X (.type "str") zStr := call_str_int
def zIntT : List V → Hp → VK → Prop := fun xs H Q => zInt xs H Q ∨ ∃ a n, xs = [.str a] ∧ PySem.intText? a = some n ∧ a.length ≤ 640 ∧ Q (.int n) H
theorem call_zIntT {X : Cx} : CallR X (.type "int") zIntT := CallR.or call_zInt call_int_str
def zMulU (K : PySem.W.Frag) : R2 := fun x y H Q => zMul x y H Q ∨ rRepT K x y H Q
theorem op_zMulU {X : Cx} : OpR X (binaryOp .Mult) (zMulU X.K) := OpR.or op_zMul op_repT
def tJoined (ts : List TE) : TE := fun σ H Q => tJs ts Str.empty σ H fun out H1 => Q (.str out) H1
theorem pe_joinedZ {X : Cx} {v1 v2 : Expr} {rest : List Expr} {ts : List TE} {pos : Pos} (h : PJ X (v1 :: v2 :: rest) ts) : PE X (.JoinedStr (v1 :: v2 :: rest) pos) (tJoined ts) := pe_joined h
section
variable {B : Bx} {W : WX} {Γ Γ' : List Sl} {P : Po} {te ta tb tk tv td to : TE} {aa : TA} {d e : D} {ds as bs : List D} {a b : List Nat} {i k n : Int}
theorem rc_str (h : i.natAbs.log2 < 1920) : RC B zStr [.int i] (.str (tx (itxt i))) := fun xs G H Q s r q => by
  cases r with
  | cons r1 r2 => cases r1; cases r2; exact ⟨i, rfl, h, q _ G H (.refl s) (by rw [← str_itxt]; exact .str _)⟩
theorem rc_intT (h : PySem.intText? (tx a) = some n) (hl : a.length ≤ 640) : RC B zIntT [.str (tx a)] (.int n) := fun xs G H Q s r q => by
  cases r with
  | cons r1 r2 => cases r1; cases r2; exact .inr ⟨_, n, rfl, h, by rw [tx_length]; exact hl, q _ G H (.refl s) (.int _)⟩
theorem rc_intTi : RC B zIntT [.int i] (.int i) := fun xs G H Q s r q => .inl (rc_int xs G H Q s r q)
def rep2 {α : Type} (n : Nat) (l : List α) : List α := (List.replicate n l).flatten
theorem Rps.rep {K : PySem.W.Frag} {G : Hp} {vs : List V} {ds : List D} (h : Rps K G vs ds) : ∀ n : Nat, Rps K G (rep2 n vs) (rep2 n ds)
  | 0 => .nil
  | n + 1 => by
    unfold rep2
    rw [List.replicate_succ, List.replicate_succ, List.flatten_cons, List.flatten_cons]
    exact h.append (Rps.rep h n)
theorem rv_mulU (h0 : as ≠ []) (h1 : 2 ≤ k) (h2 : k ≤ 1000) (h3 : as.length ≤ 1000) : RV B (zMulU B.K) (.tup as) (.int k) (.tup (rep2 k.toNat as)) := fun x y G H Q s rx ry q => by
  cases ry
  cases rx with
  | tup h r =>
    rename_i p xs
    refine .inr ⟨p, k, xs, rfl, rfl, same_t s h, fun e => h0 ?_, h1, h2, by rw [r.length]; exact h3, fun p2 hp2 => q _ _ _ (.new s hp2) (.tup (.inl (.inl upd_same)) ?_)⟩
    · subst e; cases r; rfl
    · exact (r.rep k.toNat).mono (Fw.new (o := .tup _) s hp2).g
theorem rv_mulUT (h1 : -(2 ^ 62) < k) (h2 : k < 2 ^ 62) (h : a.length * k.toNat ≤ 16777216) : RV B (zMulU B.K) (.str (tx a)) (.int k) (.str (tx (rep k.toNat a))) := fun x y G H Q s rx ry q => .inl (rv_mulT h1 h2 h x y G H Q s rx ry q)
/-- f-strings: texts and ints -/
theorem ev_fmtT (h : Ev B te Γ (.str (tx a))) (hl : a.length ≤ 16777216) : Ev B (tFmt te) Γ (.str (tx a)) := fun σ G H Q S q =>
  h σ G H _ S fun v G1 H1 f r => by
    cases r
    exact .inl ⟨_, rfl, by rw [tx_length]; exact line_le hl, q _ G1 H1 f (.str _)⟩
theorem ev_fmtI (h : Ev B te Γ (.int i)) (hl : i.natAbs.log2 < 1920) : Ev B (tFmt te) Γ (.str (tx (itxt i))) := fun σ G H Q S q =>
  h σ G H _ S fun v G1 H1 f r => by
    cases r
    exact .inr ⟨_, rfl, hl, q _ G1 H1 f (by rw [← str_itxt]; exact .str _)⟩
/-- parts of an f-string -/
inductive EvJ (B : Bx) (Γ : List Sl) : List TE → List Nat → Prop where
  | nil : EvJ B Γ [] []
  | cons {t : TE} {ts : List TE} {a b : List Nat} (h : Ev B t Γ (.str (tx a))) (r : EvJ B Γ ts b) : EvJ B Γ (t :: ts) (a ++ b)
theorem evj_run {ts : List TE} (h : EvJ B Γ ts a) : ∀ (acc : List Nat) σ G H (Q : Str → Hp → Prop), acc.length + a.length ≤ 16777216 → Stt B Γ σ G H → (∀ G' H', Fw G H G' H' → Q (tx (acc ++ a)) H') → tJs ts (tx acc) σ H Q := by
  induction h with
  | nil => intro acc σ G H Q hl S q; have := q G H (.refl S.same); rw [List.append_nil] at this; exact this
  | cons h r ih =>
    intro acc σ G H Q hl S q
    refine h σ G H _ S fun v G1 H1 f rv => ?_
    cases rv
    rw [List.length_append] at hl
    refine ⟨_, rfl, ?_, ?_⟩
    · rw [tx_append, tx_length, List.length_append]; exact line_le (by omega)
    · rw [tx_append]
      refine ih _ σ G1 H1 Q (by rw [List.length_append]; omega) (S.step f) fun G2 H2 f2 => ?_
      rw [List.append_assoc]
      exact q G2 H2 (f.trans f2)
theorem ev_joined {ts : List TE} (h : EvJ B Γ ts a) (hl : a.length ≤ 16777216) : Ev B (tJoined ts) Γ (.str (tx a)) := fun σ G H Q S q =>
  evj_run h [] σ G H _ (by simpa using hl) S fun G' H' f => q _ G' H' f (.str _)
/-- split -/
def splt (c : Nat) (a : List Nat) : List (List Nat) := TL.spl [c] 0 [] a
theorem split_tx {c : Nat} (hc : c < 256) : Txt.split (tx a) (tx [c]) = (splt c a).map tx := SX.split_S (b := [c]) (by simp) (by simp [hc])
theorem evo_split {K : PySem.W.Frag} (hK : K = B.K) {c : Nat} (hc : c < 256) (ho : Ev B to Γ (.str (tx a))) (ha : EvA B aa Γ [.str (tx [c])]) (hl : a.length ≤ 16777000) : EvO B (tBM K "str" rSplitT to aa) Γ (.lst ((splt c a).map fun x => .str (tx x))) := fun σ G H Q S q => by
  subst hK
  refine ho σ G H _ S fun v G1 H1 f1 r1 => ?_
  cases r1
  refine ⟨rfl, ha σ G1 H1 _ (S.step f1) fun vs G2 H2 f2 r2 => ?_⟩
  cases r2 with
  | cons r3 r4 =>
    cases r3; cases r4
    refine ⟨_, _, rfl, rfl, rfl, by rw [tx_length]; exact line_le (by omega), fun p hp => ?_⟩
    have f := f1.trans f2
    refine q p _ G2 _ (f.trans (Fw.newO f.e hp)) (f.e.free hp) (f.h.free hp) upd_same ⟨_, rfl, ?_⟩
    rw [split_tx hc, List.map_map]
    exact rps_txs (splt c a)
end
/-! ### splt and joinL -/
theorem spl_free {c : Nat} : ∀ (w acc : List Nat), c ∉ w → TL.spl [c] 0 acc w = [acc ++ w]
  | [], acc, _ => by rw [TL.spl_nil, List.append_nil]
  | x :: r, acc, h => by
    rw [List.mem_cons, not_or] at h
    rw [TL.spl_miss (by simp [TL.pre]; exact fun e => h.1 e.symm), spl_free r _ h.2, List.append_assoc]
    rfl
theorem spl_sep {c : Nat} (t : List Nat) : ∀ (w acc : List Nat), c ∉ w → TL.spl [c] 0 acc (w ++ c :: t) = (acc ++ w) :: TL.spl [c] 0 [] t
  | [], acc, _ => by rw [List.nil_append, TL.spl_hit (by simp [TL.pre]), List.append_nil]; rfl
  | x :: r, acc, h => by
    rw [List.mem_cons, not_or] at h
    rw [List.cons_append, TL.spl_miss (by simp [TL.pre]; exact fun e => h.1 e.symm), spl_sep t r _ h.2, List.append_assoc]
    rfl
theorem splt_free {c : Nat} {w : List Nat} (h : c ∉ w) : splt c w = [w] := spl_free w [] h
theorem splt_sep {c : Nat} {w t : List Nat} (h : c ∉ w) : splt c (w ++ c :: t) = w :: splt c t := spl_sep t w [] h
theorem splt_join {c : Nat} : ∀ (ws : List (List Nat)), ws ≠ [] → (∀ w ∈ ws, c ∉ w) → splt c (joinL [c] ws) = ws
  | [], h, _ => absurd rfl h
  | [w], _, h => splt_free (h w (by simp))
  | w :: v :: r, _, h => by
    have ih := splt_join (v :: r) (by simp) fun x hx => h x (by simp at hx ⊢; exact .inr hx)
    show splt c (w ++ [c] ++ joinL [c] (v :: r)) = _
    rw [List.append_assoc, List.singleton_append, splt_sep (h w (by simp)), ih]
theorem splt_ne (c : Nat) (a : List Nat) : splt c a ≠ [] := by
  unfold splt
  have : ∀ (l : List Nat) (acc : List Nat), TL.spl [c] 0 acc l ≠ [] := by
    intro l
    induction l with
    | nil => intro acc; rw [TL.spl_nil]; simp
    | cons x r ih =>
      intro acc
      cases h : TL.pre [c] (x :: r) with
      | true => rw [TL.spl_hit h]; simp
      | false => rw [TL.spl_miss h]; exact ih _
  exact this a []
end Z

/-! Z33: lists of ints compared; a list's members in order; isinstance of own objects. -/
namespace Z
open PySem PySem.Spec PyProof.Rows L2
theorem pyAll_ints : ∀ ns : List Int, pyAll (ns.map .int) = some (ns.map PyData.int)
  | [] => rfl
  | n :: r => by
    show (D.py (.int n)).bind (fun p => (pyAll (r.map .int)).map fun q => p :: q) = _
    rw [pyAll_ints r]; rfl
theorem lay_intsP (ns : List Int) : PyData.canLayAll0 (ns.map PyData.int) = true ∧ PyData.depthAll (ns.map PyData.int) ≤ 0 := by
  induction ns with
  | nil => exact ⟨by simp [PyData.canLayAll0], by simp [PyData.depthAll]⟩
  | cons n r ih => exact ⟨by simp [PyData.canLayAll0, PyData.canLay0, ih.1], by simp [PyData.depthAll, PyData.depth]; have := ih.2; omega⟩
theorem shaped_ints (ns : List Int) : SeqAt.shaped (.list (ns.map PyData.int)) = true := by
  obtain ⟨h1, h2⟩ := lay_intsP ns
  unfold SeqAt.shaped
  rw [Bool.and_eq_true]
  exact ⟨by simp [PyData.canLay0, h1], decide_eq_true (by simp [PyData.depth]; omega)⟩
theorem eqvAll_ints : ∀ ns ms : List Int, PyData.eqvAll (ns.map PyData.int) (ms.map PyData.int) = decide (ns = ms)
  | [], [] => by simp [PyData.eqvAll]
  | [], _ :: _ => by simp [PyData.eqvAll]
  | _ :: _, [] => by simp [PyData.eqvAll]
  | a :: r, b :: t => by
    simp only [List.map_cons, PyData.eqvAll, PyData.eqv, eqvAll_ints r t]
    rw [Bool.eq_iff_iff]
    simp
theorem rv_eqInts {B : Bx} {ns ms : List Int} : RV B (zEq B.K) (.lst (ns.map .int)) (.lst (ms.map .int)) (.bl (decide (ns = ms))) := by
  have h1 : D.py (.lst (ns.map .int)) = some (.list (ns.map PyData.int)) := by show (pyAll (ns.map .int)).map PyData.list = _; rw [pyAll_ints]; rfl
  have h2 : D.py (.lst (ms.map .int)) = some (.list (ms.map PyData.int)) := by show (pyAll (ms.map .int)).map PyData.list = _; rw [pyAll_ints]; rfl
  have := rv_eqD (B := B) h1 h2 (shaped_ints ns) (shaped_ints ms)
  rwa [show PyData.eqv (.list (ns.map PyData.int)) (.list (ms.map PyData.int)) = decide (ns = ms) by rw [PyData.eqv, eqvAll_ints]] at this
def insI (x : Int) : List Int → List Int
  | [] => [x]
  | y :: r => if x < y then x :: y :: r else if x = y then y :: r else y :: insI x r
theorem insI_mem (x k : Int) : ∀ l : List Int, k ∈ insI x l ↔ k = x ∨ k ∈ l
  | [] => by simp [insI]
  | y :: r => by
    unfold insI
    split
    · simp
    · split
      · rename_i h; subst h; simp
      · rw [List.mem_cons, insI_mem x k r, List.mem_cons]
        constructor
        · rintro (h | h | h)
          · exact .inr (.inl h)
          · exact .inl h
          · exact .inr (.inr h)
        · rintro (h | h | h)
          · exact .inr (.inl h)
          · exact .inl h
          · exact .inr (.inr h)
theorem insI_pw (x : Int) : ∀ l : List Int, l.Pairwise (· < ·) → (insI x l).Pairwise (· < ·)
  | [], _ => by simp [insI]
  | y :: r, h => by
    obtain ⟨h1, h2⟩ := List.pairwise_cons.mp h
    unfold insI
    split
    · rename_i q
      refine List.pairwise_cons.mpr ⟨fun k hk => ?_, h⟩
      rcases List.mem_cons.mp hk with rfl | hk
      · exact q
      · exact Int.lt_trans q (h1 k hk)
    · split
      · exact h
      · rename_i q1 q2
        refine List.pairwise_cons.mpr ⟨fun k hk => ?_, insI_pw x r h2⟩
        rcases (insI_mem x k r).mp hk with rfl | hk
        · omega
        · exact h1 k hk
theorem set_sorted (ns : List Int) : ∃ ms : List Int, ms.Pairwise (· < ·) ∧ ∀ k, k ∈ ms ↔ k ∈ ns := by
  induction ns with
  | nil => exact ⟨[], .nil, fun _ => Iff.rfl⟩
  | cons n r ih =>
    obtain ⟨ms, h1, h2⟩ := ih
    exact ⟨insI n ms, insI_pw n ms h1, fun k => by rw [insI_mem, h2, List.mem_cons]⟩
/-! ### isinstance(x, C), x an object of an own class -/
structure IsC (K : PySem.W.Frag) (C : Addr) : Prop where
  ha : PySem.W.findIn K (.ref C) "__class__" = some (some (.builtin "object.__class__"))
  hn : PySem.W.specialIn K (.builtin "object.__class__") "__get__" = some (some (.builtin "getset_descriptor.__get__"))
  ht : PySem.W.takesIn K (.builtin "object.__class__") = some true
  hm : PySem.W.mroIn K C (.type "object") = some true
def isCB (K : PySem.W.Frag) (C : Addr) : Bool := decide (PySem.W.findIn K (.ref C) "__class__" = some (some (.builtin "object.__class__"))) && (decide (PySem.W.specialIn K (.builtin "object.__class__") "__get__" = some (some (.builtin "getset_descriptor.__get__"))) && (decide (PySem.W.takesIn K (.builtin "object.__class__") = some true) && decide (PySem.W.mroIn K C (.type "object") = some true)))
theorem isCB_ok {K : PySem.W.Frag} {C : Addr} (h : isCB K C = true) : IsC K C := by
  unfold isCB at h
  rw [Bool.and_eq_true, Bool.and_eq_true, Bool.and_eq_true] at h
  exact ⟨of_decide_eq_true h.1, of_decide_eq_true h.2.1, of_decide_eq_true h.2.2.1, of_decide_eq_true h.2.2.2⟩
theorem rc_isiC {B : Bx} {C E : Addr} {fs : List (Str × D)} {p : Bool} (c : Cls B.K C) (ic : IsC B.K C) (hk : PySem.W.kitOne B.K (.ref C) (.ref E) = some p) : RC B (zIsi B.K) [.obj C fs, .ref E] (.bl p) := fun xs G H Q s r q => by
  cases r with
  | cons r1 r2 =>
    cases r2 with
    | cons r2 r3 =>
      cases r3; cases r2
      cases r1 with
      | obj h1 _ => exact ⟨_, _, .ref C, .ref E, p, rfl, .own E, .base (.ins (s _ _ h1) c ic.ha ic.hn ic.ht ic.hm), hk, q _ G H (.refl s) (.bl p)⟩
end Z

/-! Z34: text.index(c), text.find(c) by place. -/
namespace Z
open PySem PySem.Spec PyProof.Rows L2
theorem idx_le {c : Nat} : ∀ {a : List Nat} {i : Nat}, a[i]? = some c → a.idxOf c ≤ i
  | [], _, h => by simp at h
  | x :: r, i, h => by
    rw [List.idxOf_cons]
    cases e : x == c with
    | true => simp
    | false =>
      cases i with
      | zero => simp at h; subst h; simp at e
      | succ i => have := idx_le (a := r) (i := i) (by simpa using h); simp; omega
theorem idx_eq {c : Nat} {a : List Nat} {i : Nat} (h : a[i]? = some c) (hn : ∀ k, k < i → a[k]? ≠ some c) : a.idxOf c = i := by
  have hc : c ∈ a := List.mem_of_getElem? h
  have h1 := idx_le h
  rcases Nat.lt_or_ge (a.idxOf c) i with q | q
  · refine absurd ?_ (hn _ q)
    have := List.idxOf_lt_length_iff.mpr hc
    rw [List.getElem?_eq_getElem this, List.getElem_idxOf this]
  · omega
theorem at_one (a : List Nat) (c i : Nat) : StrLaws.At (tx a) (tx [c]) (tx a).length i ↔ a[i]? = some c := StrLaws.subAt_one (tx a) c i
theorem find_one {a : List Nat} {c : Nat} : Txt.find (tx a) (tx [c]) = if c ∈ a then ((a.idxOf c : Nat) : Int) else -1 := by
  rcases find_whole (tx a) (tx [c]) with ⟨h1, h2⟩ | ⟨i, h1, h2, h3⟩
  · have hn : c ∉ a := fun h => by
      obtain ⟨i, hi⟩ := List.getElem?_of_mem h
      exact h2 i ((at_one a c i).mpr hi)
    rw [h1, if_neg hn]
  · have h4 := (at_one a c i).mp h2
    rw [h1, if_pos (List.mem_of_getElem? h4), idx_eq h4 fun k hk q => h3 k hk ((at_one a c k).mpr q)]
def rIndexT : V → List V → Hp → VK → Prop := fun x xs H Q => ∃ a b i rest, x = .str a ∧ xs = [.str b] ∧ Builtin.Str.occurrences a b 0 a.length 1 = i :: rest ∧ Q (.int (i : Nat)) H
theorem mt_zIndexT {X : Cx} : MtR X "str.index" rIndexT := mt_sindex
theorem rm_index {B : Bx} {a : List Nat} {c : Nat} (h : c ∈ a) : RM B rIndexT (.str (tx a)) [.str (tx [c])] (.int (a.idxOf c : Nat)) := fun x xs G H Q s r rs q => by
  cases r
  cases rs with
  | cons r1 r2 =>
    cases r1; cases r2
    rcases StrLaws.occ_head (tx a) (tx [c]) 1 (Nat.le_refl 1) with ⟨h0, hn⟩ | ⟨i, r, h0, hi, hn⟩
    · obtain ⟨i, hi⟩ := List.getElem?_of_mem h
      exact absurd ((at_one a c i).mpr hi) (hn i)
    · have e := idx_eq ((at_one a c i).mp hi) fun k hk q => hn k hk ((at_one a c k).mpr q)
      exact ⟨_, _, i, r, rfl, rfl, h0, by rw [← e]; exact q _ G H (.refl s) (.int _)⟩
end Z

/-! Z35: memory lists lent for answers without lists. -/
namespace Z
open PySem PySem.Spec PyProof.Rows L2
mutual
def D.lf : D → Bool
  | .non => true | .bl _ => true | .int _ => true | .str _ => true | .ty _ => true | .ref _ => true
  | .tup l => lfs l
  | .obj _ fs => lff fs
  | .lst _ => false | .xc _ _ _ => false | .dk _ => false
def lfs : List D → Bool
  | [] => true
  | d :: r => D.lf d && lfs r
def lff : List (Str × D) → Bool
  | [] => true
  | d :: r => D.lf d.2 && lff r
end
theorem lfs_all : ∀ l : List D, lfs l = l.all D.lf
  | [] => rfl
  | d :: r => by rw [List.all_cons, ← lfs_all r]; rfl
/-- what a memory of lists alone is -/
def MLst (M : Mem) : Prop := ∀ a w, M a = some w → ∃ ds, w = .lst ds
section
variable {K : PySem.W.Frag} {G G' : Hp}
/-- G' has all of G but lists -/
def Lless (G G' : Hp) : Prop := ∀ a o, G a = some o → G' a = some o ∨ ∃ xs, o = .lst xs
theorem lless_t {a : Addr} {xs : List V} (e : Lless G G') (h : SqT K G a xs) : SqT K G' a xs := by
  rcases h with (h | ⟨o, h⟩) | h
  · rcases e _ _ h with q | ⟨_, q⟩
    · exact .inl (.inl q)
    · cases q
  · rcases e _ _ h with q | ⟨_, q⟩
    · exact .inl (.inr ⟨o, q⟩)
    · cases q
  · exact .inr h
mutual
theorem Rp.less (e : Lless G G') : ∀ {v : V} {d : D}, D.lf d = true → Rp K G v d → Rp K G' v d
  | _, _, _, .non => .non
  | _, _, _, .bl b => .bl b
  | _, _, _, .int i => .int i
  | _, _, _, .str x => .str x
  | _, _, _, .ty n => .ty n
  | _, _, _, .ref a => .ref a
  | _, _, z, .lst h r => by cases z
  | _, _, z, .tup h r => .tup (lless_t e h) (Rps.less e z r)
  | _, _, z, .obj h r => .obj (by rcases e _ _ h with q | ⟨_, q⟩; exact q; cases q) (Rfs.less e z r)
  | _, _, z, .xc h r => by cases z
  | _, _, z, .dk h r => by cases z
theorem Rps.less (e : Lless G G') : ∀ {v : List V} {d : List D}, lfs d = true → Rps K G v d → Rps K G' v d
  | _, _, _, .nil => .nil
  | _, _, z, .cons h r => .cons (Rp.less e ((Bool.and_eq_true _ _).mp z).1 h) (Rps.less e ((Bool.and_eq_true _ _).mp z).2 r)
theorem Rfs.less (e : Lless G G') : ∀ {v : List (Str × V)} {d : List (Str × D)}, lff d = true → Rfs K G v d → Rfs K G' v d
  | _, _, _, .nil => .nil
  | _, _, z, .cons h r => .cons (Rp.less e ((Bool.and_eq_true _ _).mp z).1 h) (Rfs.less e ((Bool.and_eq_true _ _).mp z).2 r)
end
end
/-- an own object without lists within -/
def Ow.lf : Ow → Bool
  | .lst ds => lfs ds
  | .ins _ fs _ => lff fs
  | .dk _ => false
def cutM (M : Mem) (G : Hp) : Hp := fun a => match M a with
  | some _ => none
  | none => G a
section
variable {B : Bx} {W : WX} {Γ Γ' : List Sl} {G G' H H' : Hp} {M : Mem} {σ : L2.St} {te : TE} {m : Nat} {d : D} {w : Ow}
theorem cut_less (ml : MLst M) (hM : MemOk B.K G H M) (f : Fw (frzM M G H) H G' H') : Lless G' (cutM M G') := fun a o h => by
  unfold cutM
  cases e : M a with
  | none => exact .inl h
  | some w =>
    refine .inr ?_
    obtain ⟨ds, rfl⟩ := ml a w e
    obtain ⟨_, u, hu, xs, rfl, _⟩ := hM a _ e
    have h2 : frzM M G H a = some (.lst xs) := by unfold frzM; rw [e]; exact hu
    rw [f.g _ _ h2] at h
    exact ⟨xs, (Option.some.inj h).symm⟩
theorem cut_fw (hM : MemOk B.K G H M) (f : Fw (frzM M G H) H G' H') : Fw G H (cutM M G') H' := by
  have gn : ∀ a w, M a = some w → G a = none := fun a w e => (hM a w e).1
  refine ⟨fun a o h => ?_, f.h, fun a o h => ?_, fun a o h n => ?_⟩
  · have hm : M a = none := by
      cases e : M a with
      | none => rfl
      | some w => rw [gn a w e] at h; cases h
    have h2 : frzM M G H a = some o := by unfold frzM; rw [hm]; exact h
    unfold cutM
    rw [hm]
    exact f.g _ _ h2
  · unfold cutM at h
    cases e : M a with
    | none => rw [e] at h; exact f.e _ _ h
    | some w => rw [e] at h; cases h
  · unfold cutM at h
    cases e : M a with
    | some w => rw [e] at h; cases h
    | none =>
      rw [e] at h
      refine f.n a o h ?_
      unfold frzM
      rw [e]
      exact n
/-- lent, for an answer without lists -/
theorem ev_lendL (hm : Γ[m]? = some (.mem M)) (ml : MLst M) (V : SlVs M M mem0 Γ Γ') (hd : D.lf d = true) (h : Ev B te Γ' d) : Ev B te Γ d := fun σ G H Q S q => by
  obtain ⟨s, S'⟩ := S.view (fun _ _ h => h) (fun _ _ z => by cases z) hm V
  have hM := S.mem hm
  exact h σ _ H Q S' fun v G' H' f r => q v _ H' (cut_fw hM f) (r.less (cut_less ml hM f) hd)
theorem evo_lendL (hm : Γ[m]? = some (.mem M)) (ml : MLst M) (V : SlVs M M mem0 Γ Γ') (hw : w.lf = true) (h : EvO B te Γ' w) : EvO B te Γ w := fun σ G H Q S q => by
  obtain ⟨s, S'⟩ := S.view (fun _ _ h => h) (fun _ _ z => by cases z) hm V
  have hM := S.mem hm
  refine h σ _ H Q S' fun a u G' H' f g n e o => q a u _ H' (cut_fw hM f) ?_ n e ?_
  · unfold cutM
    cases e : M a with
    | none => exact g
    | some w => rfl
  · cases w with
    | lst ds => obtain ⟨xs, e1, r⟩ := o; exact ⟨xs, e1, r.less (cut_less ml hM f) hw⟩
    | ins C fs oa => obtain ⟨h1, dx, xs, e1, r⟩ := o; exact ⟨h1, dx, xs, e1, r.less (cut_less ml hM f) hw⟩
    | dk ks => cases hw
end
end Z

/-! Z36: a memory list lent for a statement, and given back behind it. -/
namespace Z
open PySem PySem.Spec PyProof.Rows L2
/-- a slot without lists in its data -/
def Sl.lf : Sl → Prop
  | .un => True
  | .dat d => D.lf d = true
  | .own w => w.lf = true
  | .mem M => ∀ a w, M a = some w → w.lf = true
/-- the memory of a alone -/
def one1 (a : Addr) (w : Ow) : Mem := fun b => if b = a then some w else none
def off1 (M : Mem) (a : Addr) : Mem := fun b => if b = a then none else M b
theorem one1_iff {a b : Addr} {w v : Ow} (h : one1 a w b = some v) : b = a ∧ v = w := by
  unfold one1 at h
  split at h
  · exact ⟨‹_›, (Option.some.inj h).symm⟩
  · cases h
theorem off1_iff {M : Mem} {a b : Addr} {v : Ow} (h : off1 M a b = some v) : b ≠ a ∧ M b = some v := by
  unfold off1 at h
  split at h
  · cases h
  · exact ⟨‹_›, h⟩
section
variable {B : Bx} {W : WX} {Γ Γ' Γ2 : List Sl} {G G' H H' : Hp} {M M2 : Mem} {σ σ' : L2.St} {t : TS} {P : Po} {m : Nat} {a : Addr} {ds : List D}
theorem OwOk.less (e : Lless G G') {b : Addr} {w : Ow} {u : HO} (hw : w.lf = true) (o : OwOk B.K G b w u) : OwOk B.K G' b w u := by
  cases w with
  | lst ds => obtain ⟨xs, e1, r⟩ := o; exact ⟨xs, e1, r.less e hw⟩
  | ins C fs oa => obtain ⟨h1, dx, xs, e1, r⟩ := o; exact ⟨h1, dx, xs, e1, r.less e hw⟩
  | dk ks => cases hw
theorem Stt.back (S : Stt B Γ σ G H) (hm : Γ[m]? = some (.mem M)) (ha : M a = some (.lst ds)) (s : Same (frzM (one1 a (.lst ds)) G H) G') (S2 : Stt B Γ2 σ' G' H') (hlf : ∀ (i : Nat) (x : Sl), Γ2[i]? = some x → Sl.lf x) (hm2 : Γ2[m]? = some (.mem M2)) :
    Same G (cutM (one1 a (.lst ds)) G') ∧ Stt B (Γ2.set m (.mem (ups M2 a (.lst ds)))) σ' (cutM (one1 a (.lst ds)) G') H' := by
  have hM := S.mem hm
  obtain ⟨ga, u, hu, xs, rfl, rr⟩ := hM a _ ha
  have fa : frzM (one1 a (.lst ds)) G H a = some (.lst xs) := by unfold frzM one1; rw [if_pos rfl]; exact hu
  have g'a : G' a = some (.lst xs) := s _ _ fa
  have h'a : H' a = some (.lst xs) := S2.same _ _ g'a
  have cne : ∀ b, b ≠ a → cutM (one1 a (.lst ds)) G' b = G' b := fun b h => by unfold cutM one1; rw [if_neg h]
  have ca : cutM (one1 a (.lst ds)) G' a = none := by unfold cutM one1; rw [if_pos rfl]
  have csub : ∀ b o, cutM (one1 a (.lst ds)) G' b = some o → b ≠ a ∧ G' b = some o := fun b o h => by
    by_cases e : b = a
    · subst e; rw [ca] at h; cases h
    · exact ⟨e, by rw [cne b e] at h; exact h⟩
  have less : Lless G' (cutM (one1 a (.lst ds)) G') := fun b o h => by
    by_cases e : b = a
    · subst e; rw [g'a] at h; exact .inr ⟨xs, (Option.some.inj h).symm⟩
    · exact .inl (by rw [cne b e]; exact h)
  have sg : Same G (cutM (one1 a (.lst ds)) G') := fun b o h => by
    have e : b ≠ a := fun e => by subst e; rw [ga] at h; cases h
    rw [cne b e]
    refine s b o ?_
    unfold frzM one1
    rw [if_neg e]
    exact h
  have hlen : m < Γ2.length := by
    rcases Nat.lt_or_ge m Γ2.length with q | q
    · exact q
    · rw [List.getElem?_eq_none q] at hm2; cases hm2
  have gget : ∀ j x, (Γ2.set m (.mem (ups M2 a (.lst ds))))[j]? = some x → (j = m ∧ x = .mem (ups M2 a (.lst ds))) ∨ (j ≠ m ∧ Γ2[j]? = some x) := fun j x h => by
    by_cases e : j = m
    · subst e; rw [List.getElem?_set_self hlen] at h; exact .inl ⟨rfl, (Option.some.inj h).symm⟩
    · rw [List.getElem?_set_ne (Ne.symm e)] at h; exact .inr ⟨e, h⟩
  -- who owned a in Γ2: nobody
  have noa : ∀ j, ¬ Owns Γ2 σ' j a := fun j h => by
    rcases h with ⟨o, h1, h2⟩ | ⟨M3, w3, h1, h2⟩
    · obtain ⟨b, u2, e2, g2, _, _⟩ := S2.sl j _ h1
      rw [h2] at e2
      cases e2
      rw [g'a] at g2; cases g2
    · obtain ⟨g2, _⟩ := S2.mem h1 a w3 h2
      rw [g'a] at g2; cases g2
  have own : ∀ j b, Owns (Γ2.set m (.mem (ups M2 a (.lst ds)))) σ' j b → (b = a ∧ j = m) ∨ Owns Γ2 σ' j b := fun j b h => by
    rcases h with ⟨o, h1, h2⟩ | ⟨M3, w3, h1, h2⟩
    · rcases gget j _ h1 with ⟨_, q⟩ | ⟨_, q⟩
      · cases q
      · exact .inr (.inl ⟨o, q, h2⟩)
    · rcases gget j _ h1 with ⟨e, q⟩ | ⟨_, q⟩
      · cases q
        by_cases e2 : b = a
        · exact .inl ⟨e2, e⟩
        · rw [ups_ne e2] at h2
          subst e
          exact .inr (.inr ⟨M2, w3, hm2, h2⟩)
      · exact .inr (.inr ⟨M3, w3, q, h2⟩)
  have fresh : B.H0 a = none ∨ B.F0 a := S.nm m M a _ hm ha
  refine ⟨sg, ⟨⟨S.fw.g.trans sg, S2.fw.h, S2.fw.l, fun b o q => S2.same b o (csub b o q).2, fun b o q n => S2.fw.n b o (csub b o q).2 n⟩, by rw [List.length_set]; exact S2.len, fun j x h => ?_, fun j k b h1 h2 => ?_, fun j o b h1 h2 => ?_, fun j M3 b w3 h1 h2 => ?_⟩⟩
  · rcases gget j x h with ⟨_, rfl⟩ | ⟨_, q⟩
    · intro b w hb
      by_cases e : b = a
      · subst e
        rw [ups_same] at hb
        cases hb
        exact ⟨ca, _, h'a, xs, rfl, rr.mono sg⟩
      · rw [ups_ne e] at hb
        obtain ⟨g2, u2, z2, r2⟩ := S2.mem hm2 b w hb
        exact ⟨by rw [cne b e]; exact g2, u2, z2, OwOk.less less (hlf m _ hm2 b w hb) r2⟩
    · have qs := S2.sl j x q
      have ql := hlf j x q
      cases x with
      | un => trivial
      | dat d => obtain ⟨v, e, r⟩ := qs; exact ⟨v, e, r.less less ql⟩
      | own w =>
        obtain ⟨b, u2, e2, g2, z2, r2⟩ := qs
        have e : b ≠ a := fun e => by subst e; rw [g'a] at g2; cases g2
        exact ⟨b, u2, e2, by rw [cne b e]; exact g2, z2, OwOk.less less ql r2⟩
      | mem M3 =>
        intro b w hb
        obtain ⟨g2, u2, z2, r2⟩ := S2.mem q b w hb
        have e : b ≠ a := fun e => by subst e; rw [g'a] at g2; cases g2
        exact ⟨by rw [cne b e]; exact g2, u2, z2, OwOk.less less (ql b w hb) r2⟩
  · rcases own j b h1 with ⟨e1, e2⟩ | q1
    · rcases own k b h2 with ⟨_, e4⟩ | q2
      · rw [e2, e4]
      · rw [e1] at q2; exact absurd q2 (noa k)
    · rcases own k b h2 with ⟨e3, _⟩ | q2
      · rw [e3] at q1; exact absurd q1 (noa j)
      · exact S2.ap j k b q1 q2
  · rcases gget j _ h1 with ⟨_, q⟩ | ⟨_, q⟩
    · cases q
    · exact S2.nw j o b q h2
  · rcases gget j _ h1 with ⟨_, q⟩ | ⟨_, q⟩
    · cases q
      by_cases e : b = a
      · subst e; exact fresh
      · rw [ups_ne e] at h2; exact S2.nm m M2 b w3 hm2 h2
    · exact S2.nm j M3 b w3 q h2
/-- one list lent for a statement that only goes on (a loop) -/
theorem sv_lend1 (hm : Γ[m]? = some (.mem M)) (ha : M a = some (.lst ds)) (V : SlVs (one1 a (.lst ds)) M (off1 M a) Γ Γ')
    (h : Sv B W t Γ' { nx := fun Γ2 => (∀ (i : Nat) (x : Sl), Γ2[i]? = some x → Sl.lf x) ∧ ∃ M2, Γ2[m]? = some (.mem M2) ∧ P.nx (Γ2.set m (.mem (ups M2 a (.lst ds)))), rt := fun _ => False }) : Sv B W t Γ P := fun D σ G H E S => by
  obtain ⟨s, S'⟩ := S.view (N := one1 a (.lst ds)) (M' := off1 M a) (fun b w e => by obtain ⟨e1, e2⟩ := one1_iff e; rw [e1, e2]; exact ha) (fun b w e => by
    obtain ⟨e1, e2⟩ := off1_iff e
    exact ⟨e2, by unfold one1; rw [if_neg e1]⟩) hm V
  refine h D σ _ H ⟨fun Γ2 σ' G' H' q s2 S2 => ?_, fun _ _ _ _ z => z.elim, fun _ _ _ _ z => z.elim, fun _ _ _ _ z => z.elim, fun _ _ _ _ _ _ _ z => z.elim, fun _ _ _ _ _ _ _ _ z => z.elim⟩ S'
  obtain ⟨hlf, M2, hm2, k⟩ := q
  obtain ⟨sg, S3⟩ := S.back hm ha s2 S2 hlf hm2
  exact E.nx _ σ' _ H' k sg S3
end
end Z

/-! Z37: a list comprehension whose elements are laid into memory. -/
namespace Z
open PySem PySem.Spec PyProof.Rows L2
section
variable {B : Bx} {W : WX} {Γ Γ' : List Sl} {σ σ' : L2.St} {G G' H H' : Hp} {M M0 : Mem} {te : TE} {wi : TI} {i m : Nat} {kk : D → List Sl → Prop} {kx : Xc → List Sl → Prop}
theorem wipe1_get (h : L2.wipe σ' [i] = L2.wipe σ [i]) (hl : σ'.length = σ.length) {j : Nat} (hj : j ≠ i) : σ'[j]? = σ[j]? := by
  have h2 : σ'.set i none = σ.set i none := h
  have h3 : (σ'.set i none)[j]? = (σ.set i none)[j]? := by rw [h2]
  rwa [List.getElem?_set_ne (Ne.symm hj), List.getElem?_set_ne (Ne.symm hj)] at h3
theorem Stt.unw (S : Stt B Γ σ' G H) (hi : Γ[i]? = some .un) (h : L2.wipe σ' [i] = L2.wipe σ [i]) : Stt B Γ σ G H := by
  have hl : σ'.length = σ.length := by
    have h2 : σ'.set i none = σ.set i none := h
    have := congrArg List.length h2
    rwa [List.length_set, List.length_set] at this
  have gg : ∀ j, j ≠ i → σ'[j]? = σ[j]? := fun j hj => wipe1_get h hl hj
  have ow : ∀ j b, Owns Γ σ j b → Owns Γ σ' j b := fun j b q => by
    rcases q with ⟨o, h1, h2⟩ | ⟨M2, w2, h1, h2⟩
    · have hj : j ≠ i := fun e => by subst e; rw [hi] at h1; cases h1
      exact .inl ⟨o, h1, by rw [gg j hj]; exact h2⟩
    · exact .inr ⟨M2, w2, h1, h2⟩
  refine ⟨S.fw, by rw [← hl]; exact S.len, fun j s q => ?_, fun j k b h1 h2 => S.ap j k b (ow j b h1) (ow k b h2), fun j o b h1 h2 => ?_, S.nm⟩
  · by_cases e : j = i
    · subst e; rw [hi] at q; cases q; trivial
    · have := S.sl j s q
      rwa [gg j e] at this
  · have hj : j ≠ i := fun e => by subst e; rw [hi] at h1; cases h1
    exact S.nw j o b h1 (by rw [gg j hj]; exact h2)
theorem eve_lcM {α : Type} (enc : α → D) (xs : List α) (hi : EvI B wi Γ (xs.map enc)) (hun : Γ[i]? = some .un) (hm : Γ[m]? = some (.mem M0)) (hl : xs.length < 16777216) (I : Addr → Nat → List D → Mem → Prop)
    (h0 : ∀ p, M0 p = none → I p 0 [] (ups M0 p (.lst [])))
    (hp : ∀ p k rs M, I p k rs M → rs.length = k)
    (hs : ∀ p k x rs M, xs[k]? = some x → I p k rs M → EvE B W te ((Γ.set m (.mem M)).set i (.dat (enc x))) (fun d Γ' => ∃ M', Γ' = (Γ.set m (.mem M')).set i (.dat (enc x)) ∧ M' p = some (.lst rs) ∧ I p (k + 1) (rs ++ [d]) (ups M' p (.lst (rs ++ [d])))) (fun _ _ => False))
    (hk : ∀ p rs M, I p xs.length rs M → kk (.ref p) (Γ.set m (.mem M))) : EvE B W (tLc wi (gName i) tYes te [i]) Γ kk kx := fun σ G H Q S q _ => by
  refine hi σ G H _ S fun J G1 H1 fw w Dl hD => ?_
  obtain ⟨Gd, Y, w, hG, hy⟩ := w
  rw [List.length_map] at w
  rw [List.length_map] at hy
  have S1 := S.step fw
  have him : i ≠ m := fun e => by subst e; rw [hun] at hm; cases hm
  have hil : i < Γ.length := (List.getElem?_eq_some_iff.mp hun).1
  have hml : m < Γ.length := (List.getElem?_eq_some_iff.mp hm).1
  have hM0 : M0 Dl = none := fresh_mem (S := S1) hm hD
  have un2 : ∀ M, (Γ.set m (.mem M))[i]? = some .un := fun M => by rw [List.getElem?_set_ne (Ne.symm him)]; exact hun
  refine lc_it w (fun k H' => ∃ G' rs M, Same G1 G' ∧ Stt B (Γ.set m (.mem M)) σ G' H' ∧ I Dl k rs M) ?_ (fun k H' _ p => ?_) (fun k x H' H2 hlt p y => ?_) (fun H' p => ?_)
  · exact ⟨G1, [], _, Same.refl _, S1.memNew (w := .lst []) hm hD ⟨[], rfl, .nil⟩, h0 Dl hM0⟩
  · obtain ⟨G', rs, M, s', S', _⟩ := p
    exact hG G' H' s' S'.same
  · obtain ⟨G', rs, M, s', S', hI⟩ := p
    obtain ⟨d, G2, hd', f2, r2⟩ := hy k H' x H2 G' hlt s' S'.same y
    rw [List.getElem?_map, List.getElem?_eq_getElem hlt] at hd'
    have hd2 : enc xs[k] = d := Option.some.inj hd'
    subst hd2
    have hset : SetAt (wipeS (Γ.set m (.mem M)) [i]) i (.dat (enc xs[k])) ((Γ.set m (.mem M)).set i (.dat (enc xs[k]))) := by
      have := SetAt.of (l := wipeS (Γ.set m (.mem M)) [i]) (i := i) (s := .dat (enc xs[k])) (by rw [wipeS_len, List.length_set]; exact hil)
      have e : (wipeS (Γ.set m (.mem M)) [i]).set i (.dat (enc xs[k])) = (Γ.set m (.mem M)).set i (.dat (enc xs[k])) := by show (((Γ.set m (.mem M))).set i .un).set i _ = _; rw [List.set_set]
      rwa [e] at this
    refine evgw_name hset σ G2 H2 x _ ((S'.step f2).wipe [i] (by simp; exact hil)) r2 fun σ2 hw S2 => ⟨hw, ?_⟩
    refine evt_yes σ2 G2 H2 _ S2 fun G3 H3 f3 => ?_
    rw [if_pos rfl]
    refine hs Dl k xs[k] rs M (List.getElem?_eq_getElem hlt) hI σ2 G3 H3 _ (S2.step f3) (fun y d Γ' G4 H4 kq s4 S4 r4 => ?_) fun _ _ _ _ _ _ z => z.elim
    obtain ⟨M', rfl, hM', hI'⟩ := kq
    have hm4 : ((Γ.set m (.mem M')).set i (.dat (enc xs[k])))[m]? = some (.mem M') := by rw [List.getElem?_set_ne him, List.getElem?_set_self hml]
    obtain ⟨g4, u, hu, acc, rfl, rr⟩ := S4.mem hm4 Dl _ hM'
    refine ⟨acc, hu, ?_, G4, rs ++ [d], ups M' Dl (.lst (rs ++ [d])), ((s'.trans f2.g).trans f3.g).trans s4, ?_, hI'⟩
    · have := hp _ _ _ _ hI
      rw [rr.length, this]
      exact line_lt (by omega)
    · have S5 := S4.memMut hm4 hM' (u' := .lst (acc ++ [y])) (w' := .lst (rs ++ [d])) ⟨_, rfl, rr.append (.cons r4 .nil)⟩
      have e5 : ((Γ.set m (.mem M')).set i (.dat (enc xs[k]))).set m (.mem (ups M' Dl (.lst (rs ++ [d])))) = (Γ.set m (.mem (ups M' Dl (.lst (rs ++ [d]))))).set i (.dat (enc xs[k])) := by
        rw [List.set_comm _ _ him, List.set_set]
      rw [e5] at S5
      have S6 := S5.forget (i := i) (o := none) (by rw [List.length_set, List.length_set]; exact hil)
      rw [List.set_set] at S6
      have e6 : (Γ.set m (.mem (ups M' Dl (.lst (rs ++ [d]))))).set i .un = Γ.set m (.mem (ups M' Dl (.lst (rs ++ [d])))) := by
        have := un2 (ups M' Dl (.lst (rs ++ [d])))
        obtain ⟨hlt3, hg3⟩ := List.getElem?_eq_some_iff.mp this
        rw [← hg3]
        exact List.set_getElem_self hlt3
      rw [e6] at S6
      exact S6.unw (un2 _) (by show (σ2.set i none).set i none = _; rw [List.set_set]; exact hw)
  · obtain ⟨G', rs, M, s', S', hI⟩ := p
    exact q (.ref Dl) (.ref Dl) _ G' H' (hk Dl rs M hI) (fw.g.trans s') S' (.ref Dl)
end
end Z

/-! Z38: a loop over a list of memory, whose body changes other lists. -/
namespace Z
open PySem PySem.Spec PyProof.Rows L2
section
variable {B : Bx} {W : WX} {Γ Γ' : List Sl} {P : Po} {σ : L2.St} {G G1 H H1 : Hp} {M : Mem} {m n : Nat} {a : Addr} {ds as : List D} {g : TG} {tb : TS} {De : Ends}
theorem for_core {J : It} (w : Wk B.K G1 J ds) (S1 : Stt B Γ σ G1 H1) (E : EndsOk B W P G1 De) (V : List D → List Sl → Prop) (h0 : V ds Γ) (hd : ∀ Γ', V [] Γ' → P.nx Γ')
    (hs : ∀ x r Γ', (∃ pre, ds = pre ++ x :: r) → V (x :: r) Γ' → ∃ Γ2, EvG B g Γ' x Γ2 ∧ Sv B W tb Γ2 { P with nx := V r, ct := V r, bk := P.nx }) : ∃ W : Nat → Nat → L2.St → Hp → Prop, (∃ m, W 0 m σ H1) ∧ ∀ i m σ H, W i m σ H →
  (J.stop i H ∧ De.nx σ H) ∨ (J.go i H ∧ ∃ N : L2.St → Hp → Prop, (∀ σ' H', N σ' H' → ∃ m', m' < m ∧ W (i + 1) m' σ' H') ∧ ∀ x H', J.yld i H x H' → g x σ H' fun σ2 H2 => tb { De with nx := N, ct := N, bk := De.nx } σ2 H2) := by
  obtain ⟨Gd, Y, w, hG, hy⟩ := w
  refine for_it w (fun i σ' H' => ∃ Γ' G', V (ds.drop i) Γ' ∧ Stt B Γ' σ' G' H' ∧ Same G1 G') ⟨Γ, G1, h0, S1, Same.refl _⟩ (fun i σ' H' _ p => ?_) (fun i x σ' H' H2 hlt p y => ?_) (fun σ' H' p => ?_)
  · obtain ⟨Γ', G', _, S', s'⟩ := p
    exact hG G' H' s' S'.same
  · obtain ⟨Γ', G', hv, S', s'⟩ := p
    obtain ⟨d, G2, hd', f2, r2⟩ := hy i H' x H2 G' hlt s' S'.same y
    rw [List.getElem?_eq_getElem hlt] at hd'
    have hd2 : ds[i] = d := Option.some.inj hd'
    subst hd2
    have hdrop : ds.drop i = ds[i] :: ds.drop (i + 1) := List.drop_eq_getElem_cons hlt
    rw [hdrop] at hv
    obtain ⟨Γ2, hg, hb⟩ := hs ds[i] (ds.drop (i + 1)) Γ' ⟨ds.take i, by rw [← hdrop]; exact (List.take_append_drop i ds).symm⟩ hv
    refine hg σ' G2 H2 x _ (S'.step f2) r2 fun σ2 S2 => ?_
    have sG : Same G1 G2 := s'.trans f2.g
    refine hb _ σ2 G2 H2 ⟨fun Γ3 σ3 G3 H3 q s3 S3 => ⟨Γ3, G3, q, S3, sG.trans s3⟩, fun Γ3 σ3 G3 H3 q s3 S3 => E.nx Γ3 σ3 G3 H3 q (sG.trans s3) S3, fun Γ3 σ3 G3 H3 q s3 S3 => ⟨Γ3, G3, q, S3, sG.trans s3⟩, E.rt,
      fun x Γ c dd σ G' H' q s3 => E.xc x Γ c dd σ G' H' q (sG.trans s3), E.rm⟩ S2
  · obtain ⟨Γ', G', hv, S', s'⟩ := p
    rw [List.drop_length] at hv
    exact E.nx Γ' σ' G' H' (hd Γ' hv) s' S'
/-- for x in a list of memory: the list is away from memory for the loop -/
theorem sv_forM (wi : TI) (hwi : wi = iList B.K (tVar n) ∨ wi = iSeq B.K (tVar n)) (hn : Γ[n]? = some (.dat (.ref a))) (hm : Γ[m]? = some (.mem M)) (ha : M a = some (.lst ds)) (V : List D → List Sl → Prop) (h0 : V ds (Γ.set m (.mem (off1 M a))))
    (hd : ∀ Γ2, V [] Γ2 → (∀ (i : Nat) (x : Sl), Γ2[i]? = some x → Sl.lf x) ∧ ∃ M2, Γ2[m]? = some (.mem M2) ∧ P.nx (Γ2.set m (.mem (ups M2 a (.lst ds)))))
    (hs : ∀ x r Γ', (∃ pre, ds = pre ++ x :: r) → V (x :: r) Γ' → ∃ Γ2, EvG B g Γ' x Γ2 ∧ Sv B W tb Γ2 { nx := V r, ct := V r, bk := fun _ => False, rt := fun _ => False })
    (hV : SlVs (one1 a (.lst ds)) M (off1 M a) Γ (Γ.set m (.mem (off1 M a)))) : Sv B W (tFor wi g tb) Γ P := fun D σ G H E S => by
  obtain ⟨s, S'⟩ := S.view (N := one1 a (.lst ds)) (M' := off1 M a) (fun b w e => by obtain ⟨e1, e2⟩ := one1_iff e; rw [e1, e2]; exact ha) (fun b w e => by
    obtain ⟨e1, e2⟩ := off1_iff e
    exact ⟨e2, by unfold one1; rw [if_neg e1]⟩) hm hV
  obtain ⟨_, u, hu, xs, rfl, rr⟩ := S.mem hm a _ ha
  have fa : frzM (one1 a (.lst ds)) G H a = some (.lst xs) := by unfold frzM one1; rw [if_pos rfl]; exact hu
  obtain ⟨v, ev, rv⟩ := S.dat hn
  cases rv
  have lst : iList B.K (tVar n) σ H fun J H1 => ∃ W : Nat → Nat → L2.St → Hp → Prop, (∃ m, W 0 m σ H1) ∧ ∀ i m σ H, W i m σ H →
      (J.stop i H ∧ D.nx σ H) ∨ (J.go i H ∧ ∃ N : L2.St → Hp → Prop, (∀ σ' H', N σ' H' → ∃ m', m' < m ∧ W (i + 1) m' σ' H') ∧ ∀ x H', J.yld i H x H' → g x σ H' fun σ2 H2 => tb { D with nx := N, ct := N, bk := D.nx } σ2 H2) := by
    refine ⟨_, ev, a, rfl, ⟨xs, .inl (.inl hu)⟩, ?_⟩
    have E2 : EndsOk B W { nx := fun Γ2 => (∀ (i : Nat) (x : Sl), Γ2[i]? = some x → Sl.lf x) ∧ ∃ M2, Γ2[m]? = some (.mem M2) ∧ P.nx (Γ2.set m (.mem (ups M2 a (.lst ds)))), rt := fun _ => False } (frzM (one1 a (.lst ds)) G H) D :=
      ⟨fun Γ2 σ' G' H' q s2 S2 => by
        obtain ⟨hlf, M2, hm2, k⟩ := q
        obtain ⟨sg, S3⟩ := S.back hm ha s2 S2 hlf hm2
        exact E.nx _ σ' _ H' k sg S3, fun _ _ _ _ z => z.elim, fun _ _ _ _ z => z.elim, fun _ _ _ _ z => z.elim, fun _ _ _ _ _ _ _ z => z.elim, fun _ _ _ _ _ _ _ _ z => z.elim⟩
    have sl : SqL B.K (frzM (one1 a (.lst ds)) G H) a xs := .inl (.inl fa)
    refine for_core (wk_at walk_list (fun G2 H2 s1 s2 => same_l (s1.trans s2) sl) (rr.mono s)) S' E2 V h0 hd fun x r Γ2 hp hv => ?_
    obtain ⟨Γ3, hg, hb⟩ := hs x r Γ2 hp hv
    exact ⟨Γ3, hg, sv_post hb (fun _ q => q) (fun _ z => z.elim) (fun _ z => z.elim) (fun _ q => q) (fun _ _ z => z.elim)⟩
  rcases hwi with rfl | rfl
  · exact lst
  · exact .inl lst
/-- isinstance(x, list), x a list of memory -/
theorem evt_isiM {p : Bool} {T : String} (hn : Γ[n]? = some (.dat (.ref a))) (hm : Γ[m]? = some (.mem M)) (ha : M a = some (.lst ds)) (hk : PySem.W.kitOne B.K (.type "list") (.type T) = some p) : EvT B (tB (tCB (zIsi B.K) (tCons (tVar n) (tCons (tC (.ty T)) tNil)))) Γ p := fun σ G H Q S q => by
  obtain ⟨v, ev, rv⟩ := S.dat hn
  cases rv
  obtain ⟨_, u, hu, xs, rfl, rr⟩ := S.mem hm a _ ha
  exact ⟨_, ev, ⟨_, _, .type "list", .type T, p, rfl, .ty T, .base (.lst hu), hk, ⟨p, rfl, q G H (Fw.refl S.same)⟩⟩⟩
end
end Z

/-! Z39: walks over a list of memory that stands at each turn; reads of it. -/
namespace Z
open PySem PySem.Spec PyProof.Rows L2
section
variable {B : Bx} {W : WX} {Γ Γ' : List Sl} {P : Po} {σ : L2.St} {G G1 H H1 : Hp} {M M0 : Mem} {m n i : Nat} {a : Addr} {d : D} {ds as : List D} {g : TG} {tb : TS} {to ti te : TE} {aa : TA} {kk : D → List Sl → Prop} {kx : Xc → List Sl → Prop} {z : Int}
theorem walk_mem {K : PySem.W.Frag} {a : Addr} {n : Nat} : Walk (Itl K a) n (fun H => ∃ xs, SqL K H a xs ∧ xs.length = n) (fun i H x H' => H' = H ∧ ∀ xs, SqL K H a xs → xs[i]? = some x) :=
  ⟨fun i H hi q => by obtain ⟨xs, q, e⟩ := q; exact ⟨xs, xs[i]'(by omega), q, List.getElem?_eq_getElem (by omega)⟩, fun H q => by obtain ⟨xs, q, e⟩ := q; exact ⟨xs, q, by omega⟩, fun i H x H' _ _ y => y⟩
/-- for x in a list of memory that the body leaves as it is -/
theorem sv_forF (wi : TI) (hwi : wi = iList B.K to ∨ wi = iSeq B.K to) (ho : Ev B to Γ (.ref a)) (V : List D → List Sl → Prop) (h0 : V ds Γ)
    (hV : ∀ r Γ', V r Γ' → ∃ M, Γ'[m]? = some (.mem M) ∧ M a = some (.lst ds)) (hd : ∀ Γ', V [] Γ' → P.nx Γ')
    (hs : ∀ x r Γ', (∃ pre, ds = pre ++ x :: r) → V (x :: r) Γ' → ∃ Γ2, EvG B g Γ' x Γ2 ∧ Sv B W tb Γ2 { P with nx := V r, ct := V r, bk := P.nx }) : Sv B W (tFor wi g tb) Γ P := fun D σ G H E S => by
  have lst : iList B.K to σ H fun J H1 => ∃ W : Nat → Nat → L2.St → Hp → Prop, (∃ m, W 0 m σ H1) ∧ ∀ i m σ H, W i m σ H →
      (J.stop i H ∧ D.nx σ H) ∨ (J.go i H ∧ ∃ N : L2.St → Hp → Prop, (∀ σ' H', N σ' H' → ∃ m', m' < m ∧ W (i + 1) m' σ' H') ∧ ∀ x H', J.yld i H x H' → g x σ H' fun σ2 H2 => tb { D with nx := N, ct := N, bk := D.nx } σ2 H2) := by
    refine ho σ G H _ S fun v G1 H1 f1 r1 => ?_
    cases r1
    have S1 := S.step f1
    obtain ⟨M, hm, ha⟩ := hV ds Γ h0
    obtain ⟨_, u, hu, xs, rfl, rr⟩ := S1.mem hm a _ ha
    refine ⟨a, rfl, ⟨xs, .inl (.inl hu)⟩, ?_⟩
    refine for_it (walk_mem (n := ds.length)) (fun i σ' H' => ∃ Γ' G', V (ds.drop i) Γ' ∧ Stt B Γ' σ' G' H' ∧ Same G1 G') ⟨Γ, G1, h0, S1, Same.refl _⟩ (fun i σ' H' _ p => ?_) (fun i x σ' H' H2 hlt p y => ?_) (fun σ' H' p => ?_)
    · obtain ⟨Γ', G', hv, S', s'⟩ := p
      obtain ⟨M', hm', ha'⟩ := hV _ _ hv
      obtain ⟨_, u', hu', xs', rfl, rr'⟩ := S'.mem hm' a _ ha'
      exact ⟨xs', .inl (.inl hu'), rr'.length⟩
    · obtain ⟨Γ', G', hv, S', s'⟩ := p
      obtain ⟨M', hm', ha'⟩ := hV _ _ hv
      obtain ⟨_, u', hu', xs', rfl, rr'⟩ := S'.mem hm' a _ ha'
      obtain ⟨rfl, y⟩ := y
      obtain ⟨d, hd', r2⟩ := rr'.get' (y xs' (.inl (.inl hu')))
      rw [List.getElem?_eq_getElem hlt] at hd'
      have hd2 : ds[i] = d := Option.some.inj hd'
      subst hd2
      have hdrop : ds.drop i = ds[i] :: ds.drop (i + 1) := List.drop_eq_getElem_cons hlt
      rw [hdrop] at hv
      obtain ⟨Γ2, hg, hb⟩ := hs ds[i] (ds.drop (i + 1)) Γ' ⟨ds.take i, by rw [← hdrop]; exact (List.take_append_drop i ds).symm⟩ hv
      refine hg σ' G' H2 x _ S' r2 fun σ2 S2 => ?_
      have sG : Same G G' := f1.g.trans s'
      refine hb _ σ2 G' H2 ⟨fun Γ3 σ3 G3 H3 q s3 S3 => ⟨Γ3, G3, q, S3, s'.trans s3⟩, fun Γ3 σ3 G3 H3 q s3 S3 => E.nx Γ3 σ3 G3 H3 q (sG.trans s3) S3, fun Γ3 σ3 G3 H3 q s3 S3 => ⟨Γ3, G3, q, S3, s'.trans s3⟩, E.rt,
        fun x Γ c dd σ G' H' q s3 => E.xc x Γ c dd σ G' H' q (sG.trans s3), E.rm⟩ S2
    · obtain ⟨Γ', G', hv, S', s'⟩ := p
      rw [List.drop_length] at hv
      exact E.nx Γ' σ' G' H' (hd Γ' hv) (f1.g.trans s') S'
  rcases hwi with rfl | rfl
  · exact lst
  · exact .inl lst
/-- a comprehension over a list of memory, its elements laid into memory -/
theorem eve_lcF (ho : Ev B to Γ (.ref a)) (ha0 : M0 a = some (.lst ds)) (hun : Γ[i]? = some .un) (hm : Γ[m]? = some (.mem M0)) (hl : ds.length < 16777216) (I : Addr → Nat → List D → Mem → Prop)
    (h0 : ∀ p, M0 p = none → I p 0 [] (ups M0 p (.lst [])))
    (hp : ∀ p k rs M, I p k rs M → rs.length = k ∧ M a = some (.lst ds))
    (hs : ∀ p k x rs M, ds[k]? = some x → I p k rs M → EvE B W te ((Γ.set m (.mem M)).set i (.dat x)) (fun d Γ' => ∃ M', Γ' = (Γ.set m (.mem M')).set i (.dat x) ∧ M' p = some (.lst rs) ∧ I p (k + 1) (rs ++ [d]) (ups M' p (.lst (rs ++ [d])))) (fun _ _ => False))
    (hk : ∀ p rs M, I p ds.length rs M → kk (.ref p) (Γ.set m (.mem M))) : EvE B W (tLc (iList B.K to) (gName i) tYes te [i]) Γ kk kx := fun σ G H Q S q _ => by
  refine ho σ G H _ S fun v G1 H1 fw r1 => ?_
  cases r1
  have S1 := S.step fw
  have him : i ≠ m := fun e => by subst e; rw [hun] at hm; cases hm
  have hil : i < Γ.length := (List.getElem?_eq_some_iff.mp hun).1
  have hml : m < Γ.length := (List.getElem?_eq_some_iff.mp hm).1
  obtain ⟨_, u, hu, xs, rfl, rr⟩ := S1.mem hm a _ ha0
  refine ⟨a, rfl, ⟨xs, .inl (.inl hu)⟩, fun Dl hD => ?_⟩
  have hM0 : M0 Dl = none := fresh_mem (S := S1) hm hD
  have un2 : ∀ M, (Γ.set m (.mem M))[i]? = some .un := fun M => by rw [List.getElem?_set_ne (Ne.symm him)]; exact hun
  have hmm : ∀ M, (Γ.set m (.mem M))[m]? = some (.mem M) := fun M => List.getElem?_set_self hml
  refine lc_it (walk_mem (n := ds.length)) (fun k H' => ∃ G' rs M, Same G1 G' ∧ Stt B (Γ.set m (.mem M)) σ G' H' ∧ I Dl k rs M) ?_ (fun k H' _ p => ?_) (fun k x H' H2 hlt p y => ?_) (fun H' p => ?_)
  · exact ⟨G1, [], _, Same.refl _, S1.memNew (w := .lst []) hm hD ⟨[], rfl, .nil⟩, h0 Dl hM0⟩
  · obtain ⟨G', rs, M, s', S', hI⟩ := p
    obtain ⟨_, u', hu', xs', rfl, rr'⟩ := S'.mem (hmm M) a _ (hp _ _ _ _ hI).2
    exact ⟨xs', .inl (.inl hu'), rr'.length⟩
  · obtain ⟨G', rs, M, s', S', hI⟩ := p
    obtain ⟨_, u', hu', xs', rfl, rr'⟩ := S'.mem (hmm M) a _ (hp _ _ _ _ hI).2
    obtain ⟨rfl, y⟩ := y
    obtain ⟨d, hd', r2⟩ := rr'.get' (y xs' (.inl (.inl hu')))
    rw [List.getElem?_eq_getElem hlt] at hd'
    have hd2 : ds[k] = d := Option.some.inj hd'
    subst hd2
    have hset : SetAt (wipeS (Γ.set m (.mem M)) [i]) i (.dat ds[k]) ((Γ.set m (.mem M)).set i (.dat ds[k])) := by
      have := SetAt.of (l := wipeS (Γ.set m (.mem M)) [i]) (i := i) (s := .dat ds[k]) (by rw [wipeS_len, List.length_set]; exact hil)
      have e : (wipeS (Γ.set m (.mem M)) [i]).set i (.dat ds[k]) = (Γ.set m (.mem M)).set i (.dat ds[k]) := by show (((Γ.set m (.mem M))).set i .un).set i _ = _; rw [List.set_set]
      rwa [e] at this
    refine evgw_name hset σ G' H2 x _ (S'.wipe [i] (by simp; exact hil)) r2 fun σ2 hw S2 => ⟨hw, ?_⟩
    refine evt_yes σ2 G' H2 _ S2 fun G3 H3 f3 => ?_
    rw [if_pos rfl]
    refine hs Dl k ds[k] rs M (List.getElem?_eq_getElem hlt) hI σ2 G3 H3 _ (S2.step f3) (fun y d Γ' G4 H4 kq s4 S4 r4 => ?_) fun _ _ _ _ _ _ z => z.elim
    obtain ⟨M', rfl, hM', hI'⟩ := kq
    have hm4 : ((Γ.set m (.mem M')).set i (.dat ds[k]))[m]? = some (.mem M') := by rw [List.getElem?_set_ne him, List.getElem?_set_self hml]
    obtain ⟨g4, u, hu, acc, rfl, rr⟩ := S4.mem hm4 Dl _ hM'
    refine ⟨acc, hu, ?_, G4, rs ++ [d], ups M' Dl (.lst (rs ++ [d])), (s'.trans f3.g).trans s4, ?_, hI'⟩
    · have := (hp _ _ _ _ hI).1
      rw [rr.length, this]
      exact line_lt (by omega)
    · have S5 := S4.memMut hm4 hM' (u' := .lst (acc ++ [y])) (w' := .lst (rs ++ [d])) ⟨_, rfl, rr.append (.cons r4 .nil)⟩
      have e5 : ((Γ.set m (.mem M')).set i (.dat ds[k])).set m (.mem (ups M' Dl (.lst (rs ++ [d])))) = (Γ.set m (.mem (ups M' Dl (.lst (rs ++ [d]))))).set i (.dat ds[k]) := by
        rw [List.set_comm _ _ him, List.set_set]
      rw [e5] at S5
      have S6 := S5.forget (i := i) (o := none) (by rw [List.length_set, List.length_set]; exact hil)
      rw [List.set_set] at S6
      have e6 : (Γ.set m (.mem (ups M' Dl (.lst (rs ++ [d]))))).set i .un = Γ.set m (.mem (ups M' Dl (.lst (rs ++ [d])))) := by
        have := un2 (ups M' Dl (.lst (rs ++ [d])))
        obtain ⟨hlt3, hg3⟩ := List.getElem?_eq_some_iff.mp this
        rw [← hg3]
        exact List.set_getElem_self hlt3
      rw [e6] at S6
      exact S6.unw (un2 _) (by show (σ2.set i none).set i none = _; rw [List.set_set]; exact hw)
  · obtain ⟨G', rs, M, s', S', hI⟩ := p
    exact q (.ref Dl) (.ref Dl) _ G' H' (hk Dl rs M hI) (fw.g.trans s') S' (.ref Dl)
/-- o.pop(i) -/
theorem eve_mPopAt (ho : Ev B to Γ (.ref a)) (hi : Ev B ti Γ (.int (n : Nat))) (hm : Γ[m]? = some (.mem M)) (ha : M a = some (.lst ds)) (hn : ds[n]? = some d) (hl : n < 16777216) (k : kk d (Γ.set m (.mem (ups M a (.lst (ds.eraseIdx n)))))) : EvE B W (tBM B.K "list" rPopAt to (tCons ti tNil)) Γ kk kx := fun σ G H Q S q qx =>
  ho σ G H _ S fun v G1 H1 f1 r1 => by
    cases r1 with
    | ref =>
      have S1 := S.step f1
      obtain ⟨g, u, hu, ⟨xs, rfl, rr⟩⟩ := S1.atM hm ha
      refine ⟨.inl ⟨rfl, xs, .inl (.inl hu)⟩, ?_⟩
      refine hi σ G1 H1 _ S1 fun v2 G2 H2 f2 r2 => ?_
      cases r2
      have S2 := S1.step f2
      obtain ⟨g2, u2, hu2, ⟨xs2, rfl, rr2⟩⟩ := S2.atM hm ha
      obtain ⟨v, hv, rv⟩ := rr2.get hn
      have hlt : n < xs2.length := (List.getElem?_eq_some_iff.mp hv).1
      refine ⟨a, xs2, (n : Int), n, v, rfl, rfl, hu2, by omega, by omega, (ixN_seq (by have h := ixN_of (n := xs2.length) (i := (n : Int)) (by omega) (by omega); rwa [Int.toNat_natCast] at h)).1, hv, ?_⟩
      refine q v d _ G2 _ k (f1.g.trans f2.g) (S2.memMut hm ha ⟨_, rfl, ?_⟩) rv
      rw [List.eraseIdx_eq_take_drop_succ, List.eraseIdx_eq_take_drop_succ]
      exact (rr2.take n).append (rr2.drop (n + 1))
/-- len(o) -/
theorem ev_lenM {K : PySem.W.Frag} (hK : K = B.K) (h : EvA B aa Γ [.ref a]) (hm : Γ[m]? = some (.mem M)) (ha : M a = some (.lst ds)) : Ev B (tCB (zLen K) aa) Γ (.int (ds.length : Nat)) := fun σ G H Q S q => by
  subst hK
  refine h σ G H _ S fun vs G1 H1 f r => ?_
  cases r with
  | cons r1 r2 =>
    cases r2; cases r1
    obtain ⟨g, u, hu, ⟨xs, rfl, rr⟩⟩ := (S.step f).atM hm ha
    exact .inl ⟨_, _, rfl, .inl ⟨_, .inl (.inl hu), rfl⟩, by rw [rr.length]; exact q _ G1 H1 f (.int _)⟩
/-- tuple(o) -/
theorem ev_tupleM {K : PySem.W.Frag} (hK : K = B.K) (h : EvA B aa Γ [.ref a]) (hm : Γ[m]? = some (.mem M)) (ha : M a = some (.lst ds)) : Ev B (tCB (zTuple K) aa) Γ (.tup ds) := fun σ G H Q S q => by
  subst hK
  refine h σ G H _ S fun vs G1 H1 f r => ?_
  cases r with
  | cons r1 r2 =>
    cases r2; cases r1
    obtain ⟨g, u, hu, ⟨xs, rfl, rr⟩⟩ := (S.step f).atM hm ha
    exact ⟨_, _, rfl, .inl ⟨.inl (.inl hu), fun p hp => q _ _ _ (f.trans (.new f.e hp)) (.tup (.inl (.inl upd_same)) (rr.mono (Fw.new (o := .tup _) f.e hp).g))⟩⟩
/-- list(o), one's own -/
theorem evo_listM {K : PySem.W.Frag} (hK : K = B.K) (h : EvA B aa Γ [.ref a]) (hm : Γ[m]? = some (.mem M)) (ha : M a = some (.lst ds)) : EvO B (tCB (zList K) aa) Γ (.lst ds) := fun σ G H Q S q => by
  subst hK
  refine h σ G H _ S fun vs G1 H1 f r => ?_
  cases r with
  | cons r1 r2 =>
    cases r2; cases r1
    obtain ⟨g, u, hu, ⟨xs, rfl, rr⟩⟩ := (S.step f).atM hm ha
    exact ⟨_, _, rfl, .inl (.inl (.inl hu)), fun p hp => q p (.lst _) G1 _ (f.trans (Fw.newO f.e hp)) (f.e.free hp) (f.h.free hp) upd_same ⟨_, rfl, rr⟩⟩
/-- o[i:j] -/
theorem ev_slM {tl th : TO} {lo hi : Option Int} (h : Ev B te Γ (.ref a)) (hl : EvP B tl Γ lo) (hh : EvP B th Γ hi) (hm : Γ[m]? = some (.mem M)) (ha : M a = some (.lst ds)) : Ev B (tSl (zSl B.K) te tl th) Γ (.lst (cut ds lo hi)) := fun σ G H Q S q => by
  refine h σ G H _ S fun v G1 H1 f1 r1 => ?_
  cases r1
  refine hl σ G1 H1 _ (S.step f1) fun G2 H2 f2 => hh σ G2 H2 _ ((S.step f1).step f2) fun G3 H3 f3 => ?_
  have f : Fw G H G3 H3 := (f1.trans f2).trans f3
  obtain ⟨g, u, hu, ⟨xs, rfl, rr⟩⟩ := (S.step f).atM hm ha
  exact .inr (.inl ⟨_, _, rfl, .inl (.inl hu), fun p hp => q _ _ _ (f.trans (.new f.e hp)) (.lst (.inl (.inl upd_same)) ((rps_cut rr lo hi).mono (Fw.new (o := .lst _) f.e hp).g))⟩)
/-- x = f(..), the arguments changing memory, which is lent for the call -/
theorem sv_setOL {F : Fn} {E : L2.St → XK} (ha : EvAE B W aa Γ (fun as Γ1 => ∃ M1 as' w Γ2, Γ1[m]? = some (.mem M1) ∧ MLst M1 ∧ Views M1 as as' ∧ w.lf = true ∧ F as' (fun s => s = .own w) (fun _ => False) ∧ SetAt Γ1 i (.own w) Γ2 ∧ P.nx Γ2) P.xc) : Sv B W (tAsg (tCallS (spz B.K F) E aa) (gName i)) Γ P := fun D σ G H EE S =>
  ha σ G H _ S (fun vs as Γ1 G1 H1 k s1 S1 r1 => by
    obtain ⟨M1, as', w, Γ2, hm, ml, V, hw, hF, hs, k⟩ := k
    have hM := S1.mem hm
    have gn : ∀ a w, M1 a = some w → G1 a = none := fun a w e => (hM a w e).1
    have sG : Same G1 (frzM M1 G1 H1) := fun a o h => by
      have : M1 a = none := by
        cases e : M1 a with
        | none => rfl
        | some w => rw [gn a w e] at h; cases h
      unfold frzM; rw [this]; exact h
    have sH : Same (frzM M1 G1 H1) H1 := fun a o h => by
      unfold frzM at h
      cases e : M1 a with
      | none => rw [e] at h; exact S1.same a o h
      | some w => rw [e] at h; exact h
    have hN : ∀ a w, M1 a = some w → ∃ u, frzM M1 G1 H1 a = some u ∧ OwOk B.K G1 a w u := fun a w e => by
      obtain ⟨_, u, hu, o⟩ := hM a w e
      exact ⟨u, by unfold frzM; rw [e]; exact hu, o⟩
    refine ⟨frzM M1 G1 H1, as', _, _, sH, Views.rp sG hN V r1, hF, fun s v G' H' hs' f rs => ?_, fun _ _ _ _ _ z => z.elim⟩
    subst hs'
    obtain ⟨a, u, rfl, g, n, e, o⟩ := rs
    have f2 := cut_fw hM f
    obtain ⟨hi, rfl⟩ := hs.eq
    refine EE.nx _ _ (cutM M1 G') H' k (s1.trans f2.g) ((S1.step f2).setO hi ?_ e ?_ (S1.fr n) fun j _ => S1.apart n j)
    · unfold cutM
      cases e : M1 a with
      | none => exact g
      | some w => rfl
    · cases w with
      | lst ds => obtain ⟨xs, e1, r⟩ := o; exact ⟨xs, e1, r.less (cut_less ml hM f) hw⟩
      | ins C fs oa => obtain ⟨h1, dx, xs, e1, r⟩ := o; exact ⟨h1, dx, xs, e1, r.less (cut_less ml hM f) hw⟩
      | dk ks => cases hw) fun x cls dd Γ1 G1 H1 k s1 S1 r1 => EE.xc x Γ1 cls dd σ G1 H1 k s1 S1 r1
end
end Z

/-! Z40: isinstance of a caught exception with a built-in class. -/
namespace Z
open PySem PySem.Spec PyProof.Rows L2
section
variable {B : Bx} {W : WX} {Γ Γ' : List Sl} {P : Po} {aa : TA} {C : Addr} {p : Bool} {te ta tb : TE} {d e : D}
theorem ev_isGT {a dd : Addr} {fs : List (Str × D)} {E : String} (ha : EvA B aa Γ [.xc a dd fs, .ty E]) (T : ExcC B.K C) (hk : PySem.W.kitOne B.K (.ref C) (.type E) = some p) : Ev B (tCB (rIsG B.K a (.ref C) (some dd)) aa) Γ (.bl p) := fun σ G H Q S q =>
  ha σ G H _ S fun vs G1 H1 f r => by
    cases r with
    | cons r1 r2 =>
      cases r2 with
      | cons r2 r3 =>
        cases r3
        cases r2
        cases r1 with
        | xc h1 _ => exact ⟨C, dd, rfl, rfl, T, _, .type E, p, _, rfl, .ty E, f.e _ _ h1, hk, q _ G1 H1 f (.bl p)⟩
/-- equal lists of truths -/
theorem pyAll_bls : ∀ ns : List Bool, pyAll (ns.map .bl) = some (ns.map PyData.bool)
  | [] => rfl
  | n :: r => by
    show (some (PyData.bool n)).bind _ = _
    rw [show pyAll (r.map D.bl) = _ from pyAll_bls r]; rfl
/-- a new list, k times -/
theorem ev_rep {ds : List D} {k : Int} (h : EvO B ta Γ (.lst ds)) (hk : Ev B tb Γ (.int k)) (h1 : -(2 ^ 62) ≤ k) (h2 : k < 2 ^ 62) (hl : ds.length * k.toNat ≤ 16777216) : Ev B (tOp zMul ta tb) Γ (.lst (rep2 k.toNat ds)) := fun σ G H Q S q =>
  h σ G H _ S fun a u G1 H1 f g n e o => hk σ G1 H1 _ (S.step f) fun v G2 H2 f2 r2 => by
    cases r2
    obtain ⟨xs, rfl, rr⟩ := o
    have ha : H2 a = some (.lst xs) := f2.h _ _ e
    refine .inr (.inr ⟨a, k, xs, rfl, rfl, ha, by omega, by omega, by rw [rr.length]; exact line_le hl, fun p hp => ?_⟩)
    refine q _ _ _ ((f.trans f2).trans (.new f2.e hp)) (.lst (.inl (.inl upd_same)) ?_)
    exact ((rr.mono f2.g).rep k.toNat).mono (Fw.new (o := .lst _) f2.e hp).g
theorem rep2_map {α β : Type} (f : α → β) (n : Nat) (l : List α) : rep2 n (l.map f) = (rep2 n l).map f := by
  unfold rep2
  rw [List.map_flatten, List.map_replicate]
theorem evi_rngN {aa : TA} {n : Nat} (h : EvA B aa Γ [.int (n : Nat)]) (hn : n < 2 ^ 60) : EvI B (iRng1 aa) Γ ((List.range n).map fun k => .int (k : Nat)) := by
  have := evi_rng1 h (by constructor <;> omega)
  rwa [Int.toNat_natCast] at this
theorem take5 {l : List Int} {p : Nat} (h : p + 5 ≤ l.length) : (l.drop p).take 5 = [l[p], l[p + 1], l[p + 2], l[p + 3], l[p + 4]] := by
  rw [List.drop_eq_getElem_cons (by omega), List.drop_eq_getElem_cons (by omega), List.drop_eq_getElem_cons (by omega), List.drop_eq_getElem_cons (by omega), List.drop_eq_getElem_cons (by omega)]
  rfl
end
end Z

/-! M75: walks over arcs; potentials. -/
namespace Z
/-- a walk of k arcs from 0 to v -/
inductive Path (tg : Nat → List Nat) : Nat → Nat → Prop
  | zero : Path tg 0 0
  | step {k u v : Nat} : Path tg k u → v ∈ tg u → Path tg (k + 1) v
/-- a fixpoint: no arc of a met node raises -/
def Fix (tg : Nat → List Nat) (f : Nat → Option Nat) : Prop := (∃ b, f 0 = some b) ∧ ∀ u x, f u = some x → ∀ v ∈ tg u, ∃ y, f v = some y ∧ x + 1 ≤ y
theorem Fix.le {tg : Nat → List Nat} {f : Nat → Option Nat} (h : Fix tg f) {b : Nat} (hb : f 0 = some b) : ∀ {k v : Nat}, Path tg k v → ∃ y, f v = some y ∧ b + k ≤ y := by
  intro k v w
  induction w with
  | zero => exact ⟨b, hb, by omega⟩
  | step w hv ih =>
    obtain ⟨x, hx, hl⟩ := ih
    obtain ⟨y, hy, hl2⟩ := h.2 _ x hx _ hv
    exact ⟨y, hy, by omega⟩
theorem Path.prefix {tg : Nat → List Nat} : ∀ {k v : Nat}, Path tg k v → ∀ j, j ≤ k → ∃ u, Path tg j u
  | _, _, .zero, j, h => ⟨0, by obtain rfl : j = 0 := Nat.le_zero.mp h; exact .zero⟩
  | _, v, .step (k := k) w hv, j, h => by
    rcases Nat.lt_or_ge k j with q | q
    · obtain rfl : j = k + 1 := by omega
      exact ⟨v, .step w hv⟩
    · exact w.prefix j q
/-- along a walk a potential takes ever greater values: a list of distinct nodes -/
theorem Path.nodes {tg : Nat → List Nat} {f : Nat → Option Nat} (h : Fix tg f) {n : Nat} (hn : ∀ u, ∀ v ∈ tg u, v < n) (h0 : 0 < n) : ∀ {k v : Nat}, Path tg k v → ∃ l : List Nat, l.length = k + 1 ∧ l.Nodup ∧ (∀ u ∈ l, u < n) ∧ v ∈ l ∧ ∃ y, f v = some y ∧ ∀ u ∈ l, ∃ x, f u = some x ∧ x ≤ y := by
  intro k v w
  induction w with
  | zero =>
    obtain ⟨b, hb⟩ := h.1
    exact ⟨[0], rfl, by simp, by simpa using h0, by simp, b, hb, fun u hu => ⟨b, by simp at hu; subst hu; exact hb, Nat.le_refl _⟩⟩
  | step w hv ih =>
    obtain ⟨l, h1, h2, h3, h4, y, hy, h5⟩ := ih
    obtain ⟨z, hz, hl⟩ := h.2 _ y hy _ hv
    rename_i k u v
    refine ⟨v :: l, by simp [h1], List.nodup_cons.mpr ⟨fun hm => ?_, h2⟩, fun u hu => ?_, by simp, z, hz, fun u hu => ?_⟩
    · obtain ⟨x, hx, hle⟩ := h5 v hm
      rw [hz] at hx
      cases hx
      omega
    · rcases List.mem_cons.mp hu with rfl | q
      · exact hn _ _ hv
      · exact h3 u q
    · rcases List.mem_cons.mp hu with rfl | q
      · exact ⟨z, hz, Nat.le_refl _⟩
      · obtain ⟨x, hx, hle⟩ := h5 u q
        exact ⟨x, hx, by omega⟩
theorem nodup_lt : ∀ {n : Nat} {l : List Nat}, l.Nodup → (∀ u ∈ l, u < n) → l.length ≤ n
  | 0, l, _, hn => by
    cases l with
    | nil => exact Nat.le_refl _
    | cons u r => exact absurd (hn u List.mem_cons_self) (Nat.not_lt_zero u)
  | n + 1, l, h, hn => by
    have h1 : (l.erase n).Nodup := h.erase n
    have h2 : ∀ u ∈ l.erase n, u < n := fun u hu => by
      have a := hn u (List.mem_of_mem_erase hu)
      have b : u ≠ n := (h.mem_erase_iff.mp hu).1
      omega
    have h3 := nodup_lt h1 h2
    rw [List.length_erase] at h3
    split at h3 <;> omega
theorem Fix.short {tg : Nat → List Nat} {f : Nat → Option Nat} (h : Fix tg f) {n : Nat} (hn : ∀ u, ∀ v ∈ tg u, v < n) (h0 : 0 < n) {k v : Nat} (w : Path tg k v) : k < n := by
  obtain ⟨l, h1, h2, h3, _⟩ := w.nodes h hn h0
  have := nodup_lt h2 h3
  omega
/-- the bill of a program -/
def Bill (tg : Nat → List Nat) (n : Nat) : Option Nat → Prop
  | none => ∃ v, Path tg n v
  | some s => 0 < s ∧ (∃ v, Path tg (s - 1) v) ∧ (∀ k v, Path tg k v → k + 1 ≤ s) ∧ ∀ k v, Path tg k v → k < n
theorem Bill.uniq {tg : Nat → List Nat} {n : Nat} : ∀ {r r' : Option Nat}, Bill tg n r → Bill tg n r' → r = r'
  | none, none, _, _ => rfl
  | none, some s, ⟨v, w⟩, ⟨_, _, _, h⟩ => absurd (h _ _ w) (Nat.lt_irrefl _)
  | some s, none, ⟨_, _, _, h⟩, ⟨v, w⟩ => absurd (h _ _ w) (Nat.lt_irrefl _)
  | some s, some s', ⟨p, ⟨v, w⟩, h, _⟩, ⟨p', ⟨v', w'⟩, h', _⟩ => by
    have a := h _ _ w'
    have b := h' _ _ w
    have : s = s' := by omega
    rw [this]
end Z

/-! M75B: lines of a program. -/
namespace Z
open PySem PySem.Spec PyProof.Rows L2
inductive Tg where
  | wd (b : Bool) | to (n : Nat)
deriving DecidableEq
def Tg.d : Tg → D
  | .wd b => .bl b
  | .to n => .int n
def Tg.num : Tg → Option Nat
  | .wd _ => none
  | .to n => some n
inductive Ln where
  | one (swap : Bool) (a b : Nat) (t : Tg)
  | first (a b : Nat) (t u : Tg)
  | every (a b s : Nat) (t u : Tg)
  | count (a : Nat) (ts : List Tg)
  | leads (a : Nat) (t u : Tg)
abbrev kChange : List Nat := [99, 104, 97, 110, 103, 101]
abbrev kSwap : List Nat := [115, 119, 97, 112]
abbrev kFirst : List Nat := [102, 105, 114, 115, 116]
abbrev kEvery : List Nat := [101, 118, 101, 114, 121]
abbrev kCount : List Nat := [99, 111, 117, 110, 116]
abbrev kLeads : List Nat := [108, 101, 97, 100, 115]
def Ln.kind : Ln → List Nat
  | .one s _ _ _ => if s then kSwap else kChange
  | .first _ _ _ _ => kFirst
  | .every _ _ _ _ _ => kEvery
  | .count _ _ => kCount
  | .leads _ _ _ => kLeads
def Ln.items : Ln → List D
  | .one _ a b t => [.str (tx [a]), .str (tx [b]), t.d]
  | .first a b t u => [.str (tx [a]), .str (tx [b]), t.d, u.d]
  | .every a b s t u => [.str (tx [a]), .str (tx [b]), .int s, t.d, u.d]
  | .count a ts => [.str (tx [a]), .tup (ts.map Tg.d)]
  | .leads a t u => [.str (tx [a]), t.d, u.d]
def Ln.d (l : Ln) : D := .tup (.str (tx l.kind) :: l.items)
def Ln.tgs : Ln → List Tg
  | .one _ _ _ t => [t]
  | .first _ _ t u => [t, u]
  | .every _ _ _ t u => [t, u]
  | .count _ ts => ts
  | .leads _ t u => [t, u]
def Ln.nums (l : Ln) : List Nat := l.tgs.filterMap Tg.num
/-- a right line: letters cs, n lines -/
def Ln.ok (cs : List Nat) (n : Nat) : Ln → Prop
  | .one _ a b t => a ∈ cs ∧ b ∈ cs ∧ ∀ k, t.num = some k → k < n
  | .first a b t u => a ∈ cs ∧ b ∈ cs ∧ ∀ k, (t.num = some k ∨ u.num = some k) → k < n
  | .every a b s t u => a ∈ cs ∧ b ∈ cs ∧ 1 ≤ s ∧ s ≤ 6 ∧ ∀ k, (t.num = some k ∨ u.num = some k) → k < n
  | .count a ts => a ∈ cs ∧ 0 < ts.length ∧ ts.length ≤ 6 ∧ ∀ t ∈ ts, ∀ k, t.num = some k → k < n
  | .leads a t u => a ∈ cs ∧ ∀ k, (t.num = some k ∨ u.num = some k) → k < n
theorem Ln.nums_lt {cs : List Nat} {n : Nat} {l : Ln} (h : l.ok cs n) : ∀ k ∈ l.nums, k < n := by
  intro k hk
  unfold Ln.nums at hk
  rw [List.mem_filterMap] at hk
  obtain ⟨t, ht, e⟩ := hk
  cases l with
  | one s a b u => simp [Ln.tgs] at ht; subst ht; exact h.2.2 k e
  | first a b u v => simp [Ln.tgs] at ht; exact h.2.2 k (by rcases ht with rfl | rfl <;> simp [e])
  | every a b s u v => simp [Ln.tgs] at ht; exact h.2.2.2.2 k (by rcases ht with rfl | rfl <;> simp [e])
  | count a ts => exact h.2.2.2 t ht k e
  | leads a u v => simp [Ln.tgs] at ht; exact h.2 k (by rcases ht with rfl | rfl <;> simp [e])
/-- the arcs of a program -/
def arcsOf (ls : List Ln) (u : Nat) : List Nat := match ls[u]? with
  | some l => l.nums
  | none => []
end Z

/-! M75C: the law's letters, targets, lines in plain Lean. -/
namespace Z
open PySem PySem.Spec PyProof.Rows L2
abbrev alpha : List Nat := [97, 98, 99, 100, 101, 102, 103, 104, 105, 106, 107, 108, 109, 110, 111, 112, 113, 114, 115, 116, 117, 118, 119, 120, 121, 122]
theorem alpha_at {i : Int} (h0 : 0 ≤ i) (h1 : i < 26) : atI alpha i = some (97 + i.toNat) := by
  have hlt : i.toNat < 26 := by omega
  have key : ∀ k : Fin 26, alpha[k.val]? = some (97 + k.val) := by decide
  have h : atI alpha ((i.toNat : Nat) : Int) = some (97 + i.toNat) := atI_ofNat (key ⟨i.toNat, hlt⟩)
  rwa [Int.toNat_of_nonneg h0] at h
def lettersOf (r0 r1 r2 r3 : Int) : List Nat :=
  if r0 = 0 then [97 + r1.toNat] else if r0 = 1 then [97 + r1.toNat, 97 + (r1 + 1 + r2).toNat, 97 + (r1 + 1 + r2 + 1 + r3).toNat] else [97 + r1.toNat, 97 + (r1 + 1 + r2).toNat]
/-- right letters: one to three of the alphabet, rising -/
def Right (ls : List Nat) : Prop := 1 ≤ ls.length ∧ ls.length ≤ 3 ∧ ls.Pairwise (· < ·) ∧ ∀ c ∈ ls, 97 ≤ c ∧ c ≤ 122
theorem lettersOf_right {r0 r1 r2 r3 : Int} (h1 : 0 ≤ r1 ∧ r1 < 8) (h2 : 0 ≤ r2 ∧ r2 < 8) (h3 : 0 ≤ r3 ∧ r3 < 8) : Right (lettersOf r0 r1 r2 r3) := by
  unfold lettersOf Right
  split
  · refine ⟨by simp, by simp, by simp, fun c hc => ?_⟩
    simp at hc; omega
  · split
    · refine ⟨by simp, by simp, ?_, fun c hc => ?_⟩
      · simp; omega
      · simp at hc; omega
    · refine ⟨by simp, by simp, ?_, fun c hc => ?_⟩
      · simp; omega
      · simp at hc; omega
/-- the law's target -/
def tgCh (d at_ many : Int) (loops : Bool) : List Tg :=
  if loops then [.wd true, .wd false, .to (at_ + 1).toNat, .to at_.toNat, .to 0, .to (d % many).toNat, .to (at_ + 2).toNat, .to (at_ + 1).toNat]
  else [.wd true, .wd false, .to (at_ + 1).toNat, .to (at_ + 1).toNat, .to (at_ + 2).toNat, .wd true, .wd false, .to (at_ + 1).toNat]
def tgCut (d many : Int) : Tg → Tg
  | .wd b => .wd b
  | .to n => if many ≤ n then .wd (decide (d % 3 = 0)) else .to n
def tgOf (d at_ many : Int) (loops : Bool) : Tg := tgCut d many ((tgCh d at_ many loops).getD (d % 8).toNat (.wd true))
theorem tgCut_lt {d many : Int} {t : Tg} {k : Nat} (h : (tgCut d many t).num = some k) : (k : Int) < many := by
  cases t with
  | wd b => cases h
  | to n =>
    by_cases q : many ≤ n
    · rw [show tgCut d many (.to n) = .wd (decide (d % 3 = 0)) from if_pos q] at h; cases h
    · rw [show tgCut d many (.to n) = .to n from if_neg q] at h; cases h; omega
theorem tgOf_lt {d at_ many : Int} {loops : Bool} {k : Nat} (h : (tgOf d at_ many loops).num = some k) : (k : Int) < many := tgCut_lt h
end Z

/-! M82: tables of two-tape machines. -/
namespace Z
open PySem PySem.Spec PyProof.Rows L2
abbrev Rw := List (List (List D))
def rwD (r : Rw) : D := .lst (r.map fun it => .lst (it.map fun os => .lst os))
def tbD (r : Rw) : D := .tup (r.map fun it => .tup (it.map fun os => .tup os))
def OptOk (d : D) : Prop := flD d = true ∨ ∃ l, d = .tup l ∧ l.length ≤ 5 ∧ l.all flD = true
def RwOk (r : Rw) : Prop := r.length ≤ 6 ∧ ∀ it ∈ r, it.length ≤ 6 ∧ ∀ os ∈ it, os.length ≤ 102 ∧ ∀ d ∈ os, OptOk d
/-- what is handed over, by style -/
def hvO (s : Nat) : D → D
  | .tup l => if s % 2 = 1 then .lst l else .tup l
  | d => d
def hvS (b : Bool) (l : List D) : D := if b then .tup l else .lst l
def hv (s : Nat) (r : Rw) : D := .lst (r.map fun it => hvS (decide (s / 4 = 1)) (it.map fun os => hvS (decide (s / 2 % 2 = 1)) (os.map (hvO s))))
def fz : Nat → D → D
  | 0, d => d
  | n + 1, .lst l => .tup (l.map (fz n))
  | n + 1, .tup l => .tup (l.map (fz n))
  | _ + 1, d => d
theorem fz_fl {n : Nat} {d : D} (h : flD d = true) : fz n d = d := by
  cases n with
  | zero => rfl
  | succ n => cases d <;> first | rfl | cases h
theorem fz_fls {n : Nat} {l : List D} (h : l.all flD = true) : l.map (fz n) = l := by
  rw [List.all_eq_true] at h
  conv => rhs; rw [← List.map_id l]
  exact List.map_congr_left fun d hd => fz_fl (h d hd)
theorem fz_opt {n s : Nat} {d : D} (h : OptOk d) : fz (n + 1) (hvO s d) = d := by
  rcases h with h | ⟨l, rfl, _, h⟩
  · have e : hvO s d = d := by cases d <;> first | rfl | cases h
    rw [e]
    exact fz_fl h
  · show fz (n + 1) (if s % 2 = 1 then .lst l else .tup l) = _
    by_cases q : s % 2 = 1
    · rw [if_pos q]; show D.tup (l.map (fz n)) = _; rw [fz_fls h]
    · rw [if_neg q]; show D.tup (l.map (fz n)) = _; rw [fz_fls h]
theorem fz_hvS {n : Nat} (b : Bool) (l : List D) : fz (n + 1) (hvS b l) = .tup (l.map (fz n)) := by cases b <;> rfl
/-- frozen, it is the table -/
theorem fz_hv {n s : Nat} {r : Rw} (h : RwOk r) : fz (n + 4) (hv s r) = tbD r := by
  show D.tup ((r.map fun it => hvS (decide (s / 4 = 1)) (it.map fun os => hvS (decide (s / 2 % 2 = 1)) (os.map (hvO s)))).map (fz (n + 3))) = _
  unfold tbD
  rw [List.map_map]
  congr 1
  refine List.map_congr_left fun it hit => ?_
  show fz (n + 2 + 1) (hvS _ _) = _
  rw [fz_hvS, List.map_map]
  congr 1
  refine List.map_congr_left fun os hos => ?_
  show fz (n + 1 + 1) (hvS _ _) = _
  rw [fz_hvS, List.map_map]
  congr 1
  conv => rhs; rw [← List.map_id os]
  exact List.map_congr_left fun d hd => fz_opt (((h.2 it hit).2 os hos).2 d hd)
/-- a right option -/
def rightO (second states : Nat) : D → Bool
  | .bl _ => true
  | .tup [.int a, .int b, .int c, .int e] => decide (-1 ≤ a) && decide (a ≤ 1) && (decide (-1 ≤ c) && decide (c ≤ 1)) && (decide (0 ≤ b) && decide (b < second)) && (decide (0 ≤ e) && decide (e < states))
  | _ => false
def rightRow (first second states : Nat) (it : List (List D)) : Bool := decide (it.length = first) && it.all fun os => decide (os.length = second) && os.all (rightO second states)
/-- the first wrong state -/
def wrongAt (first second : Nat) (r : Rw) : Option Nat := if r.length = 0 then some 0 else r.findIdx? fun it => !rightRow first second r.length it
end Z

/-! M82B: two-tape machines played, in plain Lean. -/
namespace Z
open PySem PySem.Spec PyProof.Rows L2
def TabOk (first sec st : Nat) (r : Rw) : Prop := r.length = st ∧ ∀ it ∈ r, it.length = first ∧ ∀ os ∈ it, os.length = sec ∧ ∀ d ∈ os, rightO sec st d = true
theorem right_cases {sec st : Nat} {d : D} (h : rightO sec st d = true) : (∃ b, d = .bl b) ∨ ∃ a b c e : Int, d = .tup [.int a, .int b, .int c, .int e] ∧ (-1 ≤ a ∧ a ≤ 1) ∧ (0 ≤ b ∧ b < sec) ∧ (-1 ≤ c ∧ c ≤ 1) ∧ (0 ≤ e ∧ e < st) := by
  unfold rightO at h
  split at h
  · exact .inl ⟨_, rfl⟩
  · simp only [Bool.and_eq_true, decide_eq_true_eq] at h
    exact .inr ⟨_, _, _, _, rfl, by omega, by omega, by omega, by omega⟩
  · cases h
theorem right_opt {sec st : Nat} {d : D} (h : rightO sec st d = true) : OptOk d := by
  rcases right_cases h with ⟨b, rfl⟩ | ⟨a, b, c, e, rfl, _⟩
  · exact .inl rfl
  · exact .inr ⟨_, rfl, by simp, rfl⟩
theorem tab_of_wrong {first sec : Nat} {r : Rw} (h : wrongAt first sec r = none) : 0 < r.length ∧ TabOk first sec r.length r := by
  unfold wrongAt at h
  split at h
  · cases h
  · rename_i h0
    refine ⟨by omega, rfl, fun it hit => ?_⟩
    have := List.findIdx?_eq_none_iff.mp h it hit
    simp only [Bool.not_eq_eq_eq_not, Bool.not_false] at this
    unfold rightRow at this
    simp only [Bool.and_eq_true, decide_eq_true_eq, List.all_eq_true] at this
    exact ⟨this.1, fun os hos => this.2 os hos⟩
theorem wrong_of_tab {first sec st : Nat} {r : Rw} (h0 : 0 < st) (h : TabOk first sec st r) : wrongAt first sec r = none := by
  unfold wrongAt
  rw [if_neg (by have := h.1; omega), List.findIdx?_eq_none_iff]
  intro it hit
  obtain ⟨h1, h2⟩ := h.2 it hit
  simp only [Bool.not_eq_eq_eq_not, Bool.not_false]
  unfold rightRow
  simp only [Bool.and_eq_true, decide_eq_true_eq, List.all_eq_true]
  exact ⟨h1, fun os hos => ⟨(h2 os hos).1, fun d hd => by rw [h.1]; exact (h2 os hos).2 d hd⟩⟩
theorem tab_rw {first sec st : Nat} {r : Rw} (h : TabOk first sec st r) (h1 : first ≤ 6) (h2 : sec ≤ 102) (h3 : st ≤ 6) : RwOk r :=
  ⟨by rw [h.1]; exact h3, fun it hit => ⟨by rw [(h.2 it hit).1]; exact h1, fun os hos => ⟨by rw [((h.2 it hit).2 os hos).1]; exact h2, fun d hd => right_opt (((h.2 it hit).2 os hos).2 d hd)⟩⟩⟩
/-- a play's state -/
structure Cf where
  ks : List (Key × D)
  one : Int
  two : Int
  st : Nat
def cf0 : Cf := ⟨[], 0, 0, 0⟩
def seenOf (syms : List Nat) (one : Int) : Nat := if 0 ≤ one ∧ one < (syms.length : Nat) then syms.getD one.toNat 0 else 0
def tvOf (ks : List (Key × D)) (two : Int) : Nat := match valD ks (.inl two) with
  | some (.int n) => n.toNat
  | _ => 0
def rowO (r : Rw) (syms : List Nat) (c : Cf) : List D := (r.getD c.st []).getD (seenOf syms c.one) []
def optO (r : Rw) (syms : List Nat) (c : Cf) : D := (rowO r syms c).getD (tvOf c.ks c.two) .non
def stepO (c : Cf) : D → Cf
  | .tup [.int a, .int b, .int m, .int e] => ⟨putD c.ks (.inl c.two) (.int b), c.one + a, c.two + m, e.toNat⟩
  | _ => c
def cfN (r : Rw) (syms : List Nat) : Nat → Cf
  | 0 => cf0
  | k + 1 => stepO (cfN r syms k) (optO r syms (cfN r syms k))
def wdO : D → Option Bool
  | .bl b => some b
  | _ => none
def wdN (r : Rw) (syms : List Nat) (k : Nat) : Option Bool := wdO (optO r syms (cfN r syms k))
/-- what a play let go after n moves tells -/
def Res (r : Rw) (syms : List Nat) (n m : Nat) (w : Option Bool) : Prop := (∀ j, j < m → wdN r syms j = none) ∧ m ≤ n ∧ ((∃ b, w = some b ∧ wdN r syms m = some b) ∨ (m = n ∧ w = none ∧ wdN r syms m = none))
theorem res_fn {r : Rw} {syms : List Nat} {n k m l : Nat} {w v : Option Bool} (h : Res r syms n m w) (g : Res r syms k l v) (hk : k ≤ n) : (∀ b, w = some b → m ≤ k → l = m ∧ v = w) ∧ ((w = none ∨ k < m) → l = k ∧ v = none) := by
  obtain ⟨h1, h2, h3⟩ := h
  obtain ⟨g1, g2, g3⟩ := g
  constructor
  · rintro b rfl hm
    rcases h3 with ⟨b', e, q⟩ | ⟨_, e, _⟩
    · cases e
      rcases g3 with ⟨c, rfl, p⟩ | ⟨rfl, rfl, p⟩
      · have : l = m := by
          rcases Nat.lt_trichotomy l m with a | a | a
          · rw [h1 l a] at p; cases p
          · exact a
          · rw [g1 m a] at q; cases q
        subst this
        rw [p] at q; cases q
        exact ⟨rfl, rfl⟩
      · rcases Nat.lt_or_eq_of_le hm with a | a
        · rw [g1 m a] at q; cases q
        · subst a; rw [p] at q; cases q
    · cases e
  · intro hw
    have hn : ∀ j, j ≤ k → wdN r syms j = none := fun j hj => by
      rcases hw with rfl | hw
      · rcases h3 with ⟨_, e, _⟩ | ⟨e, _, q⟩
        · cases e
        · rcases Nat.lt_or_eq_of_le (Nat.le_trans hj hk) with a | a
          · exact h1 j (by omega)
          · have : j = m := by omega
            rw [this]; exact q
      · exact h1 j (by omega)
    rcases g3 with ⟨c, rfl, p⟩ | ⟨rfl, rfl, p⟩
    · rw [hn l g2] at p; cases p
    · exact ⟨rfl, rfl⟩
/-- what stands as long as a play goes -/
structure CfOk (first sec st : Nat) (c : Cf) (k : Nat) : Prop where
  st : c.st < st
  tp : ∀ j d, valD c.ks (.inl j) = some d → ∃ n : Nat, n < sec ∧ d = .int n
  ln : c.ks.length ≤ k
theorem opt_right {first sec st k : Nat} {r : Rw} {syms : List Nat} {c : Cf} (h : TabOk first sec st r) (hs : ∀ s ∈ syms, s < first) (h1 : 0 < first) (h2 : 0 < sec) (o : CfOk first sec st c k) :
    seenOf syms c.one < first ∧ tvOf c.ks c.two < sec ∧ r[c.st]? = some (r.getD c.st []) ∧ (r.getD c.st [])[seenOf syms c.one]? = some (rowO r syms c) ∧ (rowO r syms c)[tvOf c.ks c.two]? = some (optO r syms c) ∧ rightO sec st (optO r syms c) = true := by
  have a1 : seenOf syms c.one < first := by
    unfold seenOf
    split
    · rename_i q
      have : c.one.toNat < syms.length := by omega
      rw [List.getD_eq_getElem?_getD, List.getElem?_eq_getElem this]
      exact hs _ (List.getElem_mem _)
    · exact h1
  have a2 : tvOf c.ks c.two < sec := by
    unfold tvOf
    split
    · rename_i n e
      obtain ⟨v, hv, e2⟩ := o.tp _ _ e
      cases e2
      simpa using hv
    · exact h2
  have b1 : c.st < r.length := by rw [h.1]; exact o.st
  have e1 : r[c.st]? = some (r.getD c.st []) := by rw [List.getD_eq_getElem?_getD, List.getElem?_eq_getElem b1]; rfl
  have m1 : r.getD c.st [] ∈ r := List.mem_of_getElem? e1
  obtain ⟨l1, q1⟩ := h.2 _ m1
  have e2 : (r.getD c.st [])[seenOf syms c.one]? = some (rowO r syms c) := by
    unfold rowO
    rw [List.getD_eq_getElem?_getD (l := r.getD c.st []), List.getElem?_eq_getElem (by rw [l1]; exact a1)]; rfl
  have m2 := List.mem_of_getElem? e2
  obtain ⟨l2, q2⟩ := q1 _ m2
  have e3 : (rowO r syms c)[tvOf c.ks c.two]? = some (optO r syms c) := by
    unfold optO
    rw [List.getD_eq_getElem?_getD, List.getElem?_eq_getElem (by rw [l2]; exact a2)]; rfl
  exact ⟨a1, a2, e1, e2, e3, q2 _ (List.mem_of_getElem? e3)⟩
theorem tv_get {first sec st k : Nat} {c : Cf} (o : CfOk first sec st c k) : (valD c.ks (.inl c.two)).getD (.int 0) = .int (tvOf c.ks c.two : Nat) := by
  unfold tvOf
  cases e : valD c.ks (.inl c.two) with
  | none => rfl
  | some d =>
    obtain ⟨n, _, rfl⟩ := o.tp _ _ e
    rfl
theorem putD_len1 (ks : List (Key × D)) (k : Key) (d : D) : (putD ks k d).length ≤ ks.length + 1 := by
  unfold putD
  split
  · rw [List.length_map]; omega
  · rw [List.length_append]; simp
theorem cf_step {first sec st k : Nat} {r : Rw} {syms : List Nat} (h : TabOk first sec st r) (hs : ∀ s ∈ syms, s < first) (h1 : 0 < first) (h2 : 0 < sec) (o : CfOk first sec st (cfN r syms k) k) : CfOk first sec st (cfN r syms (k + 1)) (k + 1) := by
  have q := (opt_right h hs h1 h2 o).2.2.2.2.2
  show CfOk first sec st (stepO (cfN r syms k) (optO r syms (cfN r syms k))) (k + 1)
  rcases right_cases q with ⟨b, e⟩ | ⟨a, b, c, e, e1, ha, hb, hc, he⟩
  · rw [e]
    exact ⟨o.st, o.tp, by have := o.ln; show (cfN r syms k).ks.length ≤ _; omega⟩
  · rw [e1]
    refine ⟨by show e.toNat < st; omega, fun j d hd => ?_, ?_⟩
    · have hd : valD (putD (cfN r syms k).ks (.inl (cfN r syms k).two) (.int b)) (.inl j) = some d := hd
      rw [valD_put] at hd
      split at hd
      · cases hd
        exact ⟨b.toNat, by omega, by rw [Int.toNat_of_nonneg hb.1]⟩
      · exact o.tp j d hd
    · show (putD _ _ _).length ≤ _
      have := putD_len1 (cfN r syms k).ks (.inl (cfN r syms k).two) (.int b)
      have := o.ln
      omega
theorem cf_ok {first sec st : Nat} {r : Rw} {syms : List Nat} (h : TabOk first sec st r) (hs : ∀ s ∈ syms, s < first) (h1 : 0 < first) (h2 : 0 < sec) (h3 : 0 < st) : ∀ k, CfOk first sec st (cfN r syms k) k
  | 0 => ⟨h3, fun _ _ e => (nomatch e), Nat.le_refl _⟩
  | k + 1 => cf_step h hs h1 h2 (cf_ok h hs h1 h2 h3 k)
def symsOf (lt txt : List Nat) : List Nat := txt.map fun c => lt.idxOf c + 1
theorem syms_lt {lt txt : List Nat} (h : ∀ c ∈ txt, c ∈ lt) : ∀ s ∈ symsOf lt txt, s < 1 + lt.length := fun s hs => by
  obtain ⟨c, hc, rfl⟩ := List.mem_map.mp hs
  have := List.idxOf_lt_length_of_mem (h c hc)
  omega
def wD : Option Bool → D
  | some b => .bl b
  | none => .non
def badIdx (lt txt : List Nat) : Option Nat := txt.findIdx? fun c => !decide (c ∈ lt)
/-- bounds of rows -/
def RwB (a b c : Nat) (r : Rw) : Prop := r.length ≤ a ∧ ∀ it ∈ r, it.length ≤ b ∧ ∀ os ∈ it, os.length ≤ c ∧ ∀ d ∈ os, OptOk d
theorem RwB.ok {a b c : Nat} {r : Rw} (h : RwB a b c r) (ha : a ≤ 6) (hb : b ≤ 6) (hc : c ≤ 102) : RwOk r :=
  ⟨Nat.le_trans h.1 ha, fun it hit => ⟨Nat.le_trans (h.2 it hit).1 hb, fun os hos => ⟨Nat.le_trans ((h.2 it hit).2 os hos).1 hc, ((h.2 it hit).2 os hos).2⟩⟩⟩
theorem RwB.mono {a b c a' b' c' : Nat} {r : Rw} (h : RwB a b c r) (ha : a ≤ a') (hb : b ≤ b') (hc : c ≤ c') : RwB a' b' c' r :=
  ⟨Nat.le_trans h.1 ha, fun it hit => ⟨Nat.le_trans (h.2 it hit).1 hb, fun os hos => ⟨Nat.le_trans ((h.2 it hit).2 os hos).1 hc, ((h.2 it hit).2 os hos).2⟩⟩⟩
/-- lists of memory by levels: 3 the table, 2 its rows, 1 their lists of options, 0 an option -/
def Elt (tau : Addr → Option Nat) (cap : Nat → Nat) : Nat → D → Prop
  | 0, d => flD d = true
  | 1, d => (∃ b, d = .ref b ∧ tau b = some 0) ∨ OptOk d
  | k + 2, d => (∃ b, d = .ref b ∧ tau b = some (k + 1)) ∨ ∃ l, d = .tup l ∧ l.length ≤ cap (k + 1) ∧ ∀ e ∈ l, Elt tau cap (k + 1) e
def Typed (tau : Addr → Option Nat) (cap : Nat → Nat) (M : Mem) : Prop := ∀ a k, tau a = some k → ∃ ds, M a = some (.lst ds) ∧ ds.length ≤ cap k ∧ ∀ d ∈ ds, Elt tau cap k d
def cap0 : Nat → Nat
  | 0 => 5
  | 1 => 102
  | _ => 6
theorem Elt.mono {tau tau' : Addr → Option Nat} {cap cap' : Nat → Nat} (ht : ∀ a k, tau a = some k → tau' a = some k) (hc : ∀ k, cap k ≤ cap' k) : ∀ (k : Nat) (d : D), Elt tau cap k d → Elt tau' cap' k d
  | 0, _, h => h
  | 1, _, .inl ⟨b, e, h⟩ => .inl ⟨b, e, ht _ _ h⟩
  | 1, _, .inr h => .inr h
  | k + 2, _, .inl ⟨b, e, h⟩ => .inl ⟨b, e, ht _ _ h⟩
  | k + 2, _, .inr ⟨l, e, h1, h2⟩ => .inr ⟨l, e, Nat.le_trans h1 (hc _), fun e he => Elt.mono ht hc (k + 1) e (h2 e he)⟩
/-- what ruin is given -/
def HdT (M : Mem) (a : Addr) : Prop := MLst M ∧ ∃ tau, Typed tau cap0 M ∧ tau a = some 3
end Z

/-! M82C: memory of lists by levels. -/
namespace Z
open PySem PySem.Spec PyProof.Rows L2
mutual
theorem View.mono {N N' : Mem} (h : ∀ a w, N a = some w → N' a = some w) : ∀ {d e : D}, View N d e → View N' d e
  | _, _, .rfl => .rfl
  | _, _, .lst e v => .lst (h _ _ e) (Views.mono h v)
  | _, _, .dk e v => .dk (h _ _ e) (Viewk.mono h v)
  | _, _, .ins e v => .ins (h _ _ e) (Viewf.mono h v)
  | _, _, .lstD v => .lstD (Views.mono h v)
  | _, _, .tupD v => .tupD (Views.mono h v)
theorem Views.mono {N N' : Mem} (h : ∀ a w, N a = some w → N' a = some w) : ∀ {d e : List D}, Views N d e → Views N' d e
  | _, _, .nil => .nil
  | _, _, .cons v r => .cons (View.mono h v) (Views.mono h r)
theorem Viewk.mono {N N' : Mem} (h : ∀ a w, N a = some w → N' a = some w) : ∀ {d e : List (Key × D)}, Viewk N d e → Viewk N' d e
  | _, _, .nil => .nil
  | _, _, .cons v r => .cons (View.mono h v) (Viewk.mono h r)
theorem Viewf.mono {N N' : Mem} (h : ∀ a w, N a = some w → N' a = some w) : ∀ {d e : List (Str × D)}, Viewf N d e → Viewf N' d e
  | _, _, .nil => .nil
  | _, _, .cons v r => .cons (View.mono h v) (Viewf.mono h r)
end
theorem Views.snoc {N : Mem} {d e : D} (h : View N d e) : ∀ {ds es : List D}, Views N ds es → Views N (ds ++ [d]) (es ++ [e])
  | _, _, .nil => .cons h .nil
  | _, _, .cons v r => .cons v (Views.snoc h r)
def upT (tau : Addr → Option Nat) (a : Addr) (k : Nat) : Addr → Option Nat := fun b => if b = a then some k else tau b
theorem upT_same {tau : Addr → Option Nat} {a : Addr} {k : Nat} : upT tau a k a = some k := if_pos rfl
theorem upT_mono {tau : Addr → Option Nat} {a : Addr} {k : Nat} (h : tau a = none) : ∀ b j, tau b = some j → upT tau a k b = some j := fun b j e => by
  unfold upT
  rw [if_neg]
  · exact e
  · rintro rfl; rw [h] at e; cases e
theorem ups_mono {M : Mem} {a : Addr} {w : Ow} (h : M a = none) : ∀ b v, M b = some v → ups M a w b = some v := fun b v e => by
  rw [ups_ne]
  · exact e
  · rintro rfl; rw [h] at e; cases e
structure Pt (N : Mem) (tau : Addr → Option Nat) (M : Mem) : Prop where
  sub : ∀ a w, N a = some w → M a = some w
  ty : Typed tau cap0 N
  ml : MLst M
variable {N M : Mem} {tau : Addr → Option Nat} {p q : Addr} {l ps ds es : List D} {d e : D} {k : Nat}
theorem Pt.nn (P : Pt N tau M) (h : M q = none) : N q = none := by
  cases e : N q with
  | none => rfl
  | some w => rw [P.sub q w e] at h; cases h
theorem Typed.tn {cap : Nat → Nat} (T : Typed tau cap N) (h : N q = none) : tau q = none := by
  cases e : tau q with
  | none => rfl
  | some k => obtain ⟨ds, h1, _⟩ := T q k e; rw [h] at h1; cases h1
theorem MLst.up (h : MLst M) : MLst (ups M q (.lst l)) := fun a w e => by
  by_cases z : a = q
  · subst z; rw [ups_same] at e; cases e; exact ⟨_, rfl⟩
  · rw [ups_ne z] at e; exact h a w e
theorem Typed.up {cap : Nat → Nat} (T : Typed tau cap N) (hn : N q = none) (h1 : l.length ≤ cap k) (h2 : ∀ d ∈ l, Elt tau cap k d) : Typed (upT tau q k) cap (ups N q (.lst l)) := fun a j e => by
  have ht := T.tn hn
  by_cases z : a = q
  · subst z
    rw [upT_same] at e; cases e
    exact ⟨l, ups_same, h1, fun d hd => Elt.mono (upT_mono ht) (fun _ => Nat.le_refl _) _ d (h2 d hd)⟩
  · have e : tau a = some j := by unfold upT at e; rwa [if_neg z] at e
    obtain ⟨ds, h3, h4, h5⟩ := T a j e
    exact ⟨ds, by rw [ups_ne z]; exact h3, h4, fun d hd => Elt.mono (upT_mono ht) (fun _ => Nat.le_refl _) _ d (h5 d hd)⟩
/-- a list already there is counted in -/
theorem Pt.frz (P : Pt N tau M) (hp : M p = some (.lst ps)) (hn : N p = none) (h1 : ps.length ≤ cap0 k) (h2 : ∀ d ∈ ps, Elt tau cap0 k d) : Pt (ups N p (.lst ps)) (upT tau p k) M :=
  have s : ∀ a w, ups N p (.lst ps) a = some w → M a = some w := fun a w e => by
    by_cases z : a = p
    · subst z; rw [ups_same] at e; cases e; exact hp
    · rw [ups_ne z] at e; exact P.sub a w e
  ⟨s, P.ty.up hn h1 h2, P.ml⟩
theorem Pt.mut (P : Pt N tau M) (hn : N p = none) : Pt N tau (ups M p (.lst ps)) :=
  have s : ∀ a w, N a = some w → ups M p (.lst ps) a = some w := fun a w e => by
    rw [ups_ne]
    · exact P.sub a w e
    · rintro rfl; rw [hn] at e; cases e
  ⟨s, P.ty, P.ml.up⟩
def Els (N : Mem) (tau : Addr → Option Nat) (k : Nat) (ds es : List D) : Prop := Views N ds es ∧ ∀ d ∈ ds, Elt tau cap0 k d
theorem Els.up (h : Els N tau k ds es) (hn : N q = none) (ht : tau q = none) {w : Ow} {j : Nat} : Els (ups N q w) (upT tau q j) k ds es := ⟨h.1.mono (ups_mono hn), fun d hd => Elt.mono (upT_mono ht) (fun _ => Nat.le_refl _) _ d (h.2 d hd)⟩
theorem Els.snoc (h : Els N tau k ds es) (hv : View N d e) (he : Elt tau cap0 k d) : Els N tau k (ds ++ [d]) (es ++ [e]) := ⟨h.1.snoc hv, fun x hx => by
  rcases List.mem_append.mp hx with hx | hx
  · exact h.2 x hx
  · rw [List.mem_singleton] at hx; subst hx; exact he⟩
theorem Els.nil : Els N tau k [] [] := ⟨.nil, fun _ h => nomatch h⟩
/-- ruin's bounds -/
def capR (i j k : Nat) : Nat → Nat
  | 0 => 5 + 6000 * i + 300 * j + k
  | 1 => 102 + 20 * i + j
  | 2 => 6 + i
  | _ => 6
theorem capR_le {i j k i' j' k' : Nat} (h0 : 6000 * i + 300 * j + k ≤ 6000 * i' + 300 * j' + k') (h1 : 20 * i + j ≤ 20 * i' + j') (h2 : i ≤ i') : ∀ n, capR i j k n ≤ capR i' j' k' n
  | 0 => by show 5 + 6000 * i + 300 * j + k ≤ 5 + 6000 * i' + 300 * j' + k'; omega
  | 1 => by show 102 + 20 * i + j ≤ 102 + 20 * i' + j'; omega
  | 2 => by show 6 + i ≤ 6 + i'; omega
  | n + 3 => Nat.le_refl _
theorem Typed.mono {cap cap' : Nat → Nat} (T : Typed tau cap M) (h : ∀ n, cap n ≤ cap' n) : Typed tau cap' M := fun a k e => by
  obtain ⟨ds, h1, h2, h3⟩ := T a k e
  exact ⟨ds, h1, Nat.le_trans h2 (h k), fun d hd => Elt.mono (fun _ _ x => x) h k d (h3 d hd)⟩
theorem Typed.set {cap cap' : Nat → Nat} (T : Typed tau cap M) (h : ∀ n, cap n ≤ cap' n) (hq : tau q = some k) (h1 : l.length ≤ cap' k) (h2 : ∀ d ∈ l, Elt tau cap' k d) : Typed tau cap' (ups M q (.lst l)) := fun a j e => by
  by_cases z : a = q
  · subst z
    rw [hq] at e; cases e
    exact ⟨l, ups_same, h1, h2⟩
  · obtain ⟨ds, h3, h4, h5⟩ := T a j e
    exact ⟨ds, by rw [ups_ne z]; exact h3, Nat.le_trans h4 (h j), fun d hd => Elt.mono (fun _ _ x => x) h j d (h5 d hd)⟩
theorem mem_set0 {l : List D} {n : Nat} {x y : D} (h : y ∈ l.set n x) : y = x ∨ y ∈ l := (List.mem_or_eq_of_mem_set h).symm
end Z

/-! M82D: the changed rows in memory: 3 the table, 2 its rows, 1 their lists of options. -/
namespace Z
open PySem PySem.Spec PyProof.Rows L2
def EltS (tau : Addr → Option Nat) : Nat → D → Prop
  | 0, _ => False
  | 1, d => OptOk d
  | k + 2, d => ∃ b, d = .ref b ∧ tau b = some (k + 1)
def TypS (tau : Addr → Option Nat) (cap : Nat → Nat) (M : Mem) : Prop := ∀ a k, tau a = some k → ∃ ds, M a = some (.lst ds) ∧ ds.length ≤ cap k ∧ ∀ d ∈ ds, EltS tau k d
variable {N M : Mem} {tau tau' : Addr → Option Nat} {p q a : Addr} {l ps ds es : List D} {d e : D} {k : Nat} {cap cap' : Nat → Nat}
theorem EltS.mono (ht : ∀ a k, tau a = some k → tau' a = some k) : ∀ (k : Nat) (d : D), EltS tau k d → EltS tau' k d
  | 0, _, h => h
  | 1, _, h => h
  | _ + 2, _, ⟨b, e, h⟩ => ⟨b, e, ht _ _ h⟩
theorem TypS.tn (T : TypS tau cap M) (h : M q = none) : tau q = none := by
  cases e : tau q with
  | none => rfl
  | some k => obtain ⟨ds, h1, _⟩ := T q k e; rw [h] at h1; cases h1
/-- a list, not counted so far -/
theorem TypS.up (T : TypS tau cap M) (ht : tau q = none) (h1 : l.length ≤ cap k) (h2 : ∀ d ∈ l, EltS tau k d) : TypS (upT tau q k) cap (ups M q (.lst l)) := fun a j e => by
  by_cases z : a = q
  · subst z
    rw [upT_same] at e; cases e
    exact ⟨l, ups_same, h1, fun d hd => EltS.mono (upT_mono ht) _ d (h2 d hd)⟩
  · have e : tau a = some j := by unfold upT at e; rwa [if_neg z] at e
    obtain ⟨ds, h3, h4, h5⟩ := T a j e
    exact ⟨ds, by rw [ups_ne z]; exact h3, h4, fun d hd => EltS.mono (upT_mono ht) _ d (h5 d hd)⟩
theorem TypS.up0 (T : TypS tau cap M) (ht : tau q = none) (hq : M q = some (.lst l)) (h1 : l.length ≤ cap k) (h2 : ∀ d ∈ l, EltS tau k d) : TypS (upT tau q k) cap M := by
  have := T.up ht h1 h2
  rwa [ups_self hq] at this
theorem TypS.off (T : TypS tau cap M) (ht : tau q = none) {w : Ow} : TypS tau cap (ups M q w) := fun a j e => by
  obtain ⟨ds, h3, h4, h5⟩ := T a j e
  exact ⟨ds, by rw [ups_ne (fun z => by subst z; rw [ht] at e; cases e)]; exact h3, h4, h5⟩
theorem TypS.set (T : TypS tau cap M) (h : ∀ n, cap n ≤ cap' n) (hq : tau q = some k) (h1 : l.length ≤ cap' k) (h2 : ∀ d ∈ l, EltS tau k d) : TypS tau cap' (ups M q (.lst l)) := fun a j e => by
  by_cases z : a = q
  · subst z
    rw [hq] at e; cases e
    exact ⟨l, ups_same, h1, h2⟩
  · obtain ⟨ds, h3, h4, h5⟩ := T a j e
    exact ⟨ds, by rw [ups_ne z]; exact h3, Nat.le_trans h4 (h j), h5⟩
theorem TypS.mono (T : TypS tau cap M) (h : ∀ n, cap n ≤ cap' n) : TypS tau cap' M := fun a j e => by
  obtain ⟨ds, h3, h4, h5⟩ := T a j e
  exact ⟨ds, h3, Nat.le_trans h4 (h j), h5⟩
theorem TypS.v2 (T : TypS tau cap M) : ∀ ds : List D, (∀ d ∈ ds, EltS tau 2 d) → ∃ it : List (List D), Views M ds (it.map .lst) ∧ it.length = ds.length ∧ ∀ os ∈ it, os.length ≤ cap 1 ∧ ∀ d ∈ os, OptOk d
  | [], _ => ⟨[], .nil, rfl, fun _ h => nomatch h⟩
  | d :: ds, h => by
    obtain ⟨it, h1, h2, h3⟩ := T.v2 ds fun x hx => h x (List.mem_cons_of_mem _ hx)
    obtain ⟨b, rfl, hb⟩ := h d (by simp)
    obtain ⟨os, e1, e2, e3⟩ := T b 1 hb
    refine ⟨os :: it, .cons (.lst e1 (Views.refl os)) h1, by simp [h2], fun o ho => ?_⟩
    rcases List.mem_cons.mp ho with rfl | ho
    · exact ⟨e2, e3⟩
    · exact h3 o ho
theorem TypS.v3 (T : TypS tau cap M) : ∀ ds : List D, (∀ d ∈ ds, EltS tau 3 d) → ∃ r : Rw, Views M ds (r.map fun it => .lst (it.map .lst)) ∧ r.length = ds.length ∧ ∀ it ∈ r, it.length ≤ cap 2 ∧ ∀ os ∈ it, os.length ≤ cap 1 ∧ ∀ d ∈ os, OptOk d
  | [], _ => ⟨[], .nil, rfl, fun _ h => nomatch h⟩
  | d :: ds, h => by
    obtain ⟨r, h1, h2, h3⟩ := T.v3 ds fun x hx => h x (List.mem_cons_of_mem _ hx)
    obtain ⟨b, rfl, hb⟩ := h d (by simp)
    obtain ⟨ls, e1, e2, e3⟩ := T b 2 hb
    obtain ⟨it, g1, g2, g3⟩ := T.v2 ls e3
    refine ⟨it :: r, .cons (.lst e1 g1) h1, by simp [h2], fun o ho => ?_⟩
    rcases List.mem_cons.mp ho with rfl | ho
    · exact ⟨by omega, g3⟩
    · exact h3 o ho
def capS (a b c : Nat) : Nat → Nat
  | 1 => c
  | 2 => b
  | _ => a
theorem capS_le {a b c : Nat} : ∀ n, capS a b c n ≤ capS (a + 1) (b + 1) (c + 1) n
  | 0 => Nat.le_succ _
  | 1 => Nat.le_succ _
  | 2 => Nat.le_succ _
  | _ + 3 => Nat.le_succ _
theorem TypS.rw {x y z : Nat} (T : TypS tau (capS x y z) M) (h : tau a = some 3) : ∃ r : Rw, View M (.ref a) (rwD r) ∧ RwB x y z r := by
  obtain ⟨ds, h1, h2, h3⟩ := T a 3 h
  obtain ⟨r, e1, e2, e3⟩ := T.v3 ds h3
  exact ⟨r, .lst h1 e1, by have : ds.length ≤ x := h2; omega, e3⟩
end Z

namespace L
open PySem PySem.Spec PyProof.Rows L2 Z

def top (i : Nat) : Stmt := PySem.Challenge.pw_straightclock_k82_two_tapes_played.main.body.getD i (.Pass ⟨0, 0, 0, 0⟩)
abbrev s__law_digits : Stmt := top 20
abbrev N__law_digits : List Str := ["cell", "sizes", "row", "rest", "size", "seed", "k", "twice"]
theorem sc__law_digits : FnScope N__law_digits ["cell", "sizes"] (defScope s__law_digits) := ⟨rfl, rfl, rfl, by decide +kernel, rfl, by decide +kernel, by decide +kernel⟩
abbrev s__law_letters : Stmt := top 21
abbrev N__law_letters : List Str := ["row", "names", "second", "third"]
theorem sc__law_letters : FnScope N__law_letters ["row"] (defScope s__law_letters) := ⟨rfl, rfl, rfl, by decide +kernel, rfl, by decide +kernel, by decide +kernel⟩
abbrev s__law_cell : Stmt := top 19
abbrev N__law_cell : List Str := ["script", "k", "seed", "cell"]
theorem sc__law_cell : FnScope N__law_cell ["script", "k"] (defScope s__law_cell) := ⟨rfl, rfl, rfl, by decide +kernel, rfl, by decide +kernel, by decide +kernel⟩
abbrev s__law_two_option : Stmt := top 22
abbrev N__law_two_option : List Str := ["row", "one", "two", "second", "states", "write"]
theorem sc__law_two_option : FnScope N__law_two_option ["row", "one", "two", "second", "states"] (defScope s__law_two_option) := ⟨rfl, rfl, rfl, by decide +kernel, rfl, by decide +kernel, by decide +kernel⟩
abbrev s__law_two_table : Stmt := top 23
abbrev N__law_two_table : List Str := ["script", "at", "first", "second", "states", "rows", "state", "digits", "item", "one", "options", "two", "place"]
theorem sc__law_two_table : FnScope N__law_two_table ["script", "at", "first", "second", "states"] (defScope s__law_two_table) := ⟨rfl, rfl, rfl, by decide +kernel, rfl, by decide +kernel, by decide +kernel⟩
abbrev s__law_handed : Stmt := top 24
abbrev N__law_handed : List Str := ["rows", "style", "handed", "item", "lists", "options", "parts", "option", "%m"]
theorem sc__law_handed : FnScope N__law_handed ["rows", "style"] (defScope s__law_handed) := ⟨rfl, rfl, rfl, by decide +kernel, rfl, by decide +kernel, by decide +kernel⟩
abbrev s_are_letters : Stmt := top 10
abbrev N_are_letters : List Str := ["letters", "places", "letter"]
theorem sc_are_letters : FnScope N_are_letters ["letters"] (defScope s_are_letters) := ⟨rfl, rfl, rfl, by decide +kernel, rfl, by decide +kernel, by decide +kernel⟩
abbrev s_check_letters : Stmt := top 11
abbrev N_check_letters : List Str := ["letters"]
theorem sc_check_letters : FnScope N_check_letters ["letters"] (defScope s_check_letters) := ⟨rfl, rfl, rfl, by decide +kernel, rfl, by decide +kernel, by decide +kernel⟩
abbrev s_frozen : Stmt := top 8
abbrev N_frozen : List Str := ["value", "part"]
theorem sc_frozen : FnScope N_frozen ["value"] (defScope s_frozen) := ⟨rfl, rfl, rfl, by decide +kernel, rfl, by decide +kernel, by decide +kernel⟩
abbrev s_is_whole : Stmt := top 9
abbrev N_is_whole : List Str := ["value"]
theorem sc_is_whole : FnScope N_is_whole ["value"] (defScope s_is_whole) := ⟨rfl, rfl, rfl, by decide +kernel, rfl, by decide +kernel, by decide +kernel⟩
abbrev s_is_two_option : Stmt := top 13
abbrev N_is_two_option : List Str := ["value", "second_symbols", "states", "first_move", "write", "second_move", "after", "part"]
theorem sc_is_two_option : FnScope N_is_two_option ["value", "second_symbols", "states"] (defScope s_is_two_option) := ⟨rfl, rfl, rfl, by decide +kernel, rfl, by decide +kernel, by decide +kernel⟩
abbrev s_is_two_row : Stmt := top 14
abbrev N_is_two_row : List Str := ["row", "first_symbols", "second_symbols", "states", "options", "option"]
theorem sc_is_two_row : FnScope N_is_two_row ["row", "first_symbols", "second_symbols", "states"] (defScope s_is_two_row) := ⟨rfl, rfl, rfl, by decide +kernel, rfl, by decide +kernel, by decide +kernel⟩
abbrev s_TwoTape : Stmt := inClass (top 15) 0
abbrev N_TwoTape : List Str := ["self", "letters", "second_symbols", "table", "rows", "state", "row"]
theorem sc_TwoTape : FnScope N_TwoTape ["self", "letters", "second_symbols", "table"] (defScope s_TwoTape) := ⟨rfl, rfl, rfl, by decide +kernel, rfl, by decide +kernel, by decide +kernel⟩
abbrev s__law_ruin : Stmt := top 25
abbrev N__law_ruin : List Str := ["handed", "item", "options", "option", "%m"]
theorem sc__law_ruin : FnScope N__law_ruin ["handed"] (defScope s__law_ruin) := ⟨rfl, rfl, rfl, by decide +kernel, rfl, by decide +kernel, by decide +kernel⟩
abbrev s__law_other_option : Stmt := top 26
abbrev N__law_other_option : List Str := ["kind", "step", "far", "second", "states", "told"]
theorem sc__law_other_option : FnScope N__law_other_option ["kind", "step", "far", "second", "states"] (defScope s__law_other_option) := ⟨rfl, rfl, rfl, by decide +kernel, rfl, by decide +kernel, by decide +kernel⟩
abbrev s__law_spoilt : Stmt := top 27
abbrev N__law_spoilt : List Str := ["rows", "digits", "second", "changed", "item", "options", "kind", "one", "two", "step", "far", "%m"]
theorem sc__law_spoilt : FnScope N__law_spoilt ["rows", "digits", "second"] (defScope s__law_spoilt) := ⟨rfl, rfl, rfl, by decide +kernel, rfl, by decide +kernel, by decide +kernel⟩
abbrev s__law_whole : Stmt := top 18
abbrev N__law_whole : List Str := ["value"]
theorem sc__law_whole : FnScope N__law_whole ["value"] (defScope s__law_whole) := ⟨rfl, rfl, rfl, by decide +kernel, rfl, by decide +kernel, by decide +kernel⟩
abbrev s__law_right_option : Stmt := top 28
abbrev N__law_right_option : List Str := ["option", "second", "states", "part", "moves"]
theorem sc__law_right_option : FnScope N__law_right_option ["option", "second", "states"] (defScope s__law_right_option) := ⟨rfl, rfl, rfl, by decide +kernel, rfl, by decide +kernel, by decide +kernel⟩
abbrev s__law_first_wrong : Stmt := top 29
abbrev N__law_first_wrong : List Str := ["rows", "first", "second", "state", "options", "option"]
theorem sc__law_first_wrong : FnScope N__law_first_wrong ["rows", "first", "second"] (defScope s__law_first_wrong) := ⟨rfl, rfl, rfl, by decide +kernel, rfl, by decide +kernel, by decide +kernel⟩
abbrev s__law_told : Stmt := top 30
abbrev N__law_told : List Str := ["letters", "second", "handed", "e", "kinds"]
theorem sc__law_told : FnScope N__law_told ["letters", "second", "handed"] (defScope s__law_told) := ⟨rfl, rfl, rfl, by decide +kernel, rfl, by decide +kernel, by decide +kernel⟩
abbrev s__law_changed_tables : Stmt := top 40
abbrev N__law_changed_tables : List Str := ["script", "letters", "second", "rows", "style", "kept", "digits", "k", "changed", "due", "handed", "told", "%m"]
theorem sc__law_changed_tables : FnScope N__law_changed_tables ["script", "letters", "second", "rows", "style"] (defScope s__law_changed_tables) := ⟨rfl, rfl, rfl, by decide +kernel, rfl, by decide +kernel, by decide +kernel⟩
abbrev s__law_same_option : Stmt := top 31
abbrev N__law_same_option : List Str := ["told", "option", "k"]
theorem sc__law_same_option : FnScope N__law_same_option ["told", "option"] (defScope s__law_same_option) := ⟨rfl, rfl, rfl, by decide +kernel, rfl, by decide +kernel, by decide +kernel⟩
abbrev s__law_same_table : Stmt := top 32
abbrev N__law_same_table : List Str := ["told", "rows", "state", "one", "options", "two"]
theorem sc__law_same_table : FnScope N__law_same_table ["told", "rows"] (defScope s__law_same_table) := ⟨rfl, rfl, rfl, by decide +kernel, rfl, by decide +kernel, by decide +kernel⟩
abbrev s__law_same_machine : Stmt := top 33
abbrev N__law_same_machine : List Str := ["machine", "letters", "second", "rows"]
theorem sc__law_same_machine : FnScope N__law_same_machine ["machine", "letters", "second", "rows"] (defScope s__law_same_machine) := ⟨rfl, rfl, rfl, by decide +kernel, rfl, by decide +kernel, by decide +kernel⟩
abbrev s_play_two : Stmt := top 16
abbrev N_play_two : List Str := ["machine", "text", "most", "first", "index", "character", "second", "one", "two", "state", "moves", "option"]
theorem sc_play_two : FnScope N_play_two ["machine", "text", "most"] (defScope s_play_two) := ⟨rfl, rfl, rfl, by decide +kernel, rfl, by decide +kernel, by decide +kernel⟩
abbrev s__law_bad_index : Stmt := top 37
abbrev N__law_bad_index : List Str := ["machine", "text", "bound", "e"]
theorem sc__law_bad_index : FnScope N__law_bad_index ["machine", "text", "bound"] (defScope s__law_bad_index) := ⟨rfl, rfl, rfl, by decide +kernel, rfl, by decide +kernel, by decide +kernel⟩
abbrev s__law_refuses_texts : Stmt := top 38
abbrev N__law_refuses_texts : List Str := ["machine", "letters", "text", "digits", "bound", "signs", "k", "spoilt", "j", "place", "due", "index", "told"]
theorem sc__law_refuses_texts : FnScope N__law_refuses_texts ["machine", "letters", "text", "digits", "bound"] (defScope s__law_refuses_texts) := ⟨rfl, rfl, rfl, by decide +kernel, rfl, by decide +kernel, by decide +kernel⟩
abbrev s__law_wrong_letters : Stmt := top 39
abbrev N__law_wrong_letters : List Str := ["letters", "second", "rows", "number", "wrong", "handed", "told", "%m"]
theorem sc__law_wrong_letters : FnScope N__law_wrong_letters ["letters", "second", "rows", "number"] (defScope s__law_wrong_letters) := ⟨rfl, rfl, rfl, by decide +kernel, rfl, by decide +kernel, by decide +kernel⟩
abbrev s__law_walk : Stmt := top 34
abbrev N__law_walk : List Str := ["rows", "symbols", "longest", "tape", "one", "two", "state", "moves", "seen", "option"]
theorem sc__law_walk : FnScope N__law_walk ["rows", "symbols", "longest"] (defScope s__law_walk) := ⟨rfl, rfl, rfl, by decide +kernel, rfl, by decide +kernel, by decide +kernel⟩
abbrev s__law_same_play : Stmt := top 35
abbrev N__law_same_play : List Str := ["told", "moves", "word"]
theorem sc__law_same_play : FnScope N__law_same_play ["told", "moves", "word"] (defScope s__law_same_play) := ⟨rfl, rfl, rfl, by decide +kernel, rfl, by decide +kernel, by decide +kernel⟩
abbrev s__law_plays : Stmt := top 36
abbrev N__law_plays : List Str := ["machine", "rows", "letters", "text", "longest", "other", "walked", "bounds", "bound", "told", "letter"]
theorem sc__law_plays : FnScope N__law_plays ["machine", "rows", "letters", "text", "longest", "other"] (defScope s__law_plays) := ⟨rfl, rfl, rfl, by decide +kernel, rfl, by decide +kernel, by decide +kernel⟩
abbrev s_law : Stmt := top 41
abbrev N_law : List Str := ["script", "shape", "letters", "states", "second", "rows", "handed", "machine", "longest", "sizes", "texts", "text", "signs", "kept", "pair", "k", "%m"]
theorem sc_law : FnScope N_law ["script"] (defScope s_law) := ⟨rfl, rfl, rfl, by decide +kernel, rfl, by decide +kernel, by decide +kernel⟩
abbrev s_BadLetters : Stmt := inClass (top 2) 0
theorem sc_BadLetters : FnScope ["self", "letters"] ["self", "letters"] (defScope s_BadLetters) := ⟨rfl, rfl, rfl, by decide +kernel, rfl, by decide +kernel, by decide +kernel⟩
abbrev s_BadText : Stmt := inClass (top 3) 0
theorem sc_BadText : FnScope ["self", "index"] ["self", "index"] (defScope s_BadText) := ⟨rfl, rfl, rfl, by decide +kernel, rfl, by decide +kernel, by decide +kernel⟩
abbrev s_BadTable : Stmt := inClass (top 4) 0
theorem sc_BadTable : FnScope ["self", "state"] ["self", "state"] (defScope s_BadTable) := ⟨rfl, rfl, rfl, by decide +kernel, rfl, by decide +kernel, by decide +kernel⟩
structure Tx (w : World) (K : PySem.W.Frag) (mg : Str → Option Value) : Prop where
  f_ValueError : mg "ValueError" = none
  f_all : mg "all" = none
  f_bool : mg "bool" = none
  f_enumerate : mg "enumerate" = none
  f_int : mg "int" = none
  f_isinstance : mg "isinstance" = none
  f_len : mg "len" = none
  f_list : mg "list" = none
  f_range : mg "range" = none
  f_set : mg "set" = none
  f_sorted : mg "sorted" = none
  f_str : mg "str" = none
  f_tuple : mg "tuple" = none
  g_ClockError : mg "ClockError" = some (.ref (He.ga K "ClockError"))
  g_BadLetters : mg "BadLetters" = some (.ref (He.ga K "BadLetters"))
  g_BadText : mg "BadText" = some (.ref (He.ga K "BadText"))
  g_BadTable : mg "BadTable" = some (.ref (He.ga K "BadTable"))
  g_Guesses : mg "Guesses" = some (.ref (He.ga K "Guesses"))
  g_TwoTape : mg "TwoTape" = some (.ref (He.ga K "TwoTape"))
  x_BadLetters : OexC K (He.ga K "BadLetters")
  c_BadLetters : ExcC K (He.ga K "BadLetters")
  y_BadLetters : XfC K (He.ga K "BadLetters")
  i_BadLetters : PySem.W.findIn K (.ref (He.ga K "BadLetters")) "__init__" = some (some (.ref (He.ma K (He.ga K "BadLetters") "__init__"))) ∧ PySem.W.typeIn K (.ref (He.ma K (He.ga K "BadLetters") "__init__")) = some (.type "function")
  n_BadLetters_letters : PySem.W.findIn K (.ref (He.ga K "BadLetters")) "letters" = some none
  m_BadLetters_ClockError : PySem.W.exmOne K (.ref (He.ga K "BadLetters")) (.ref (He.ga K "ClockError")) = some true
  k_BadLetters_BadLetters : PySem.W.kitOne K (.ref (He.ga K "BadLetters")) (.ref (He.ga K "BadLetters")) = some true
  k_BadLetters_BadTable : PySem.W.kitOne K (.ref (He.ga K "BadLetters")) (.ref (He.ga K "BadTable")) = some false
  k_BadLetters_BadText : PySem.W.kitOne K (.ref (He.ga K "BadLetters")) (.ref (He.ga K "BadText")) = some false
  k_BadLetters_Guesses : PySem.W.kitOne K (.ref (He.ga K "BadLetters")) (.ref (He.ga K "Guesses")) = some false
  k_BadLetters_TwoTape : PySem.W.kitOne K (.ref (He.ga K "BadLetters")) (.ref (He.ga K "TwoTape")) = some false
  k_BadLetters_ValueError : PySem.W.kitOne K (.ref (He.ga K "BadLetters")) (.type "ValueError") = some true
  x_BadText : OexC K (He.ga K "BadText")
  c_BadText : ExcC K (He.ga K "BadText")
  y_BadText : XfC K (He.ga K "BadText")
  i_BadText : PySem.W.findIn K (.ref (He.ga K "BadText")) "__init__" = some (some (.ref (He.ma K (He.ga K "BadText") "__init__"))) ∧ PySem.W.typeIn K (.ref (He.ma K (He.ga K "BadText") "__init__")) = some (.type "function")
  n_BadText_index : PySem.W.findIn K (.ref (He.ga K "BadText")) "index" = some none
  m_BadText_ClockError : PySem.W.exmOne K (.ref (He.ga K "BadText")) (.ref (He.ga K "ClockError")) = some true
  k_BadText_BadLetters : PySem.W.kitOne K (.ref (He.ga K "BadText")) (.ref (He.ga K "BadLetters")) = some false
  k_BadText_BadTable : PySem.W.kitOne K (.ref (He.ga K "BadText")) (.ref (He.ga K "BadTable")) = some false
  k_BadText_BadText : PySem.W.kitOne K (.ref (He.ga K "BadText")) (.ref (He.ga K "BadText")) = some true
  k_BadText_Guesses : PySem.W.kitOne K (.ref (He.ga K "BadText")) (.ref (He.ga K "Guesses")) = some false
  k_BadText_TwoTape : PySem.W.kitOne K (.ref (He.ga K "BadText")) (.ref (He.ga K "TwoTape")) = some false
  k_BadText_ValueError : PySem.W.kitOne K (.ref (He.ga K "BadText")) (.type "ValueError") = some true
  x_BadTable : OexC K (He.ga K "BadTable")
  c_BadTable : ExcC K (He.ga K "BadTable")
  y_BadTable : XfC K (He.ga K "BadTable")
  i_BadTable : PySem.W.findIn K (.ref (He.ga K "BadTable")) "__init__" = some (some (.ref (He.ma K (He.ga K "BadTable") "__init__"))) ∧ PySem.W.typeIn K (.ref (He.ma K (He.ga K "BadTable") "__init__")) = some (.type "function")
  n_BadTable_state : PySem.W.findIn K (.ref (He.ga K "BadTable")) "state" = some none
  m_BadTable_ClockError : PySem.W.exmOne K (.ref (He.ga K "BadTable")) (.ref (He.ga K "ClockError")) = some true
  k_BadTable_BadLetters : PySem.W.kitOne K (.ref (He.ga K "BadTable")) (.ref (He.ga K "BadLetters")) = some false
  k_BadTable_BadTable : PySem.W.kitOne K (.ref (He.ga K "BadTable")) (.ref (He.ga K "BadTable")) = some true
  k_BadTable_BadText : PySem.W.kitOne K (.ref (He.ga K "BadTable")) (.ref (He.ga K "BadText")) = some false
  k_BadTable_Guesses : PySem.W.kitOne K (.ref (He.ga K "BadTable")) (.ref (He.ga K "Guesses")) = some false
  k_BadTable_TwoTape : PySem.W.kitOne K (.ref (He.ga K "BadTable")) (.ref (He.ga K "TwoTape")) = some false
  k_BadTable_ValueError : PySem.W.kitOne K (.ref (He.ga K "BadTable")) (.type "ValueError") = some true
  mk_TwoTape : Mk K (He.ga K "TwoTape") (He.ma K (He.ga K "TwoTape") "__init__")
  cl_TwoTape : Cls K (He.ga K "TwoTape")
  is_TwoTape : IsC K (He.ga K "TwoTape")
  k_TwoTape_BadLetters : PySem.W.kitOne K (.ref (He.ga K "TwoTape")) (.ref (He.ga K "BadLetters")) = some false
  k_TwoTape_BadTable : PySem.W.kitOne K (.ref (He.ga K "TwoTape")) (.ref (He.ga K "BadTable")) = some false
  k_TwoTape_BadText : PySem.W.kitOne K (.ref (He.ga K "TwoTape")) (.ref (He.ga K "BadText")) = some false
  k_TwoTape_Guesses : PySem.W.kitOne K (.ref (He.ga K "TwoTape")) (.ref (He.ga K "Guesses")) = some false
  k_TwoTape_TwoTape : PySem.W.kitOne K (.ref (He.ga K "TwoTape")) (.ref (He.ga K "TwoTape")) = some true
  na_TwoTape_letters : NoAttr K (He.ga K "TwoTape") "letters"
  na_TwoTape_second_symbols : NoAttr K (He.ga K "TwoTape") "second_symbols"
  na_TwoTape_table : NoAttr K (He.ga K "TwoTape") "table"
  k_ALPHABET : ∃ t, mg "ALPHABET" = some (.str (tx [97, 98, 99, 100, 101, 102, 103, 104, 105, 106, 107, 108, 109, 110, 111, 112, 113, 114, 115, 116, 117, 118, 119, 120, 121, 122]) t)
def tabs : List TabZ := []
def facts : List (PySem.W.Frag → Bool) := [fun K => freeB K "ValueError",
  fun K => freeB K "all",
  fun K => freeB K "bool",
  fun K => freeB K "enumerate",
  fun K => freeB K "int",
  fun K => freeB K "isinstance",
  fun K => freeB K "len",
  fun K => freeB K "list",
  fun K => freeB K "range",
  fun K => freeB K "set",
  fun K => freeB K "sorted",
  fun K => freeB K "str",
  fun K => freeB K "tuple",
  fun K => gloB K "ClockError",
  fun K => gloB K "BadLetters",
  fun K => gloB K "BadText",
  fun K => gloB K "BadTable",
  fun K => gloB K "Guesses",
  fun K => gloB K "TwoTape",
  fun K => oexB K (He.ga K "BadLetters"),
  fun K => excCB K (He.ga K "BadLetters"),
  fun K => xfB K (He.ga K "BadLetters"),
  fun K => initB K "BadLetters",
  fun K => decide (PySem.W.findIn K (.ref (He.ga K "BadLetters")) "letters" = some none),
  fun K => decide (PySem.W.exmOne K (.ref (He.ga K "BadLetters")) (.ref (He.ga K "ClockError")) = some true),
  fun K => decide (PySem.W.kitOne K (.ref (He.ga K "BadLetters")) (.ref (He.ga K "BadLetters")) = some true),
  fun K => decide (PySem.W.kitOne K (.ref (He.ga K "BadLetters")) (.ref (He.ga K "BadTable")) = some false),
  fun K => decide (PySem.W.kitOne K (.ref (He.ga K "BadLetters")) (.ref (He.ga K "BadText")) = some false),
  fun K => decide (PySem.W.kitOne K (.ref (He.ga K "BadLetters")) (.ref (He.ga K "Guesses")) = some false),
  fun K => decide (PySem.W.kitOne K (.ref (He.ga K "BadLetters")) (.ref (He.ga K "TwoTape")) = some false),
  fun K => decide (PySem.W.kitOne K (.ref (He.ga K "BadLetters")) (.type "ValueError") = some true),
  fun K => oexB K (He.ga K "BadText"),
  fun K => excCB K (He.ga K "BadText"),
  fun K => xfB K (He.ga K "BadText"),
  fun K => initB K "BadText",
  fun K => decide (PySem.W.findIn K (.ref (He.ga K "BadText")) "index" = some none),
  fun K => decide (PySem.W.exmOne K (.ref (He.ga K "BadText")) (.ref (He.ga K "ClockError")) = some true),
  fun K => decide (PySem.W.kitOne K (.ref (He.ga K "BadText")) (.ref (He.ga K "BadLetters")) = some false),
  fun K => decide (PySem.W.kitOne K (.ref (He.ga K "BadText")) (.ref (He.ga K "BadTable")) = some false),
  fun K => decide (PySem.W.kitOne K (.ref (He.ga K "BadText")) (.ref (He.ga K "BadText")) = some true),
  fun K => decide (PySem.W.kitOne K (.ref (He.ga K "BadText")) (.ref (He.ga K "Guesses")) = some false),
  fun K => decide (PySem.W.kitOne K (.ref (He.ga K "BadText")) (.ref (He.ga K "TwoTape")) = some false),
  fun K => decide (PySem.W.kitOne K (.ref (He.ga K "BadText")) (.type "ValueError") = some true),
  fun K => oexB K (He.ga K "BadTable"),
  fun K => excCB K (He.ga K "BadTable"),
  fun K => xfB K (He.ga K "BadTable"),
  fun K => initB K "BadTable",
  fun K => decide (PySem.W.findIn K (.ref (He.ga K "BadTable")) "state" = some none),
  fun K => decide (PySem.W.exmOne K (.ref (He.ga K "BadTable")) (.ref (He.ga K "ClockError")) = some true),
  fun K => decide (PySem.W.kitOne K (.ref (He.ga K "BadTable")) (.ref (He.ga K "BadLetters")) = some false),
  fun K => decide (PySem.W.kitOne K (.ref (He.ga K "BadTable")) (.ref (He.ga K "BadTable")) = some true),
  fun K => decide (PySem.W.kitOne K (.ref (He.ga K "BadTable")) (.ref (He.ga K "BadText")) = some false),
  fun K => decide (PySem.W.kitOne K (.ref (He.ga K "BadTable")) (.ref (He.ga K "Guesses")) = some false),
  fun K => decide (PySem.W.kitOne K (.ref (He.ga K "BadTable")) (.ref (He.ga K "TwoTape")) = some false),
  fun K => decide (PySem.W.kitOne K (.ref (He.ga K "BadTable")) (.type "ValueError") = some true),
  fun K => (He.Fa.mkr "TwoTape").ok K,
  fun K => (He.Fa.cls "TwoTape").ok K,
  fun K => isCB K (He.ga K "TwoTape"),
  fun K => decide (PySem.W.kitOne K (.ref (He.ga K "TwoTape")) (.ref (He.ga K "BadLetters")) = some false),
  fun K => decide (PySem.W.kitOne K (.ref (He.ga K "TwoTape")) (.ref (He.ga K "BadTable")) = some false),
  fun K => decide (PySem.W.kitOne K (.ref (He.ga K "TwoTape")) (.ref (He.ga K "BadText")) = some false),
  fun K => decide (PySem.W.kitOne K (.ref (He.ga K "TwoTape")) (.ref (He.ga K "Guesses")) = some false),
  fun K => decide (PySem.W.kitOne K (.ref (He.ga K "TwoTape")) (.ref (He.ga K "TwoTape")) = some true),
  fun K => (He.Fa.noat "TwoTape" "letters").ok K,
  fun K => (He.Fa.noat "TwoTape" "second_symbols").ok K,
  fun K => (He.Fa.noat "TwoTape" "table").ok K,
  fun K => (He.Fa.str "ALPHABET" "abcdefghijklmnopqrstuvwxyz").ok K]
theorem tx_of {w : World} {K : PySem.W.Frag} {h : Heap} {mg : Str → Option Value} (X : K.In h) (G : h.Ns mainGlobals mg) (c : ∀ (i : Nat) (f : PySem.W.Frag → Bool), facts[i]? = some f → f K = true) (tb : ∀ (i : Nat) (t : TabZ), tabs[i]? = some t → ∃ es n, KDict K w (He.ga K t.1) es n) : Tx w K mg :=
  ⟨He.free_ok X G (c 0 _ rfl),
   He.free_ok X G (c 1 _ rfl),
   He.free_ok X G (c 2 _ rfl),
   He.free_ok X G (c 3 _ rfl),
   He.free_ok X G (c 4 _ rfl),
   He.free_ok X G (c 5 _ rfl),
   He.free_ok X G (c 6 _ rfl),
   He.free_ok X G (c 7 _ rfl),
   He.free_ok X G (c 8 _ rfl),
   He.free_ok X G (c 9 _ rfl),
   He.free_ok X G (c 10 _ rfl),
   He.free_ok X G (c 11 _ rfl),
   He.free_ok X G (c 12 _ rfl),
   He.glo_ok X G (c 13 _ rfl),
   He.glo_ok X G (c 14 _ rfl),
   He.glo_ok X G (c 15 _ rfl),
   He.glo_ok X G (c 16 _ rfl),
   He.glo_ok X G (c 17 _ rfl),
   He.glo_ok X G (c 18 _ rfl),
   oexB_ok (c 19 _ rfl),
   excCB_ok (c 20 _ rfl),
   xfB_ok (c 21 _ rfl),
   initB_ok (c 22 _ rfl),
   of_decide_eq_true (c 23 _ rfl),
   of_decide_eq_true (c 24 _ rfl),
   of_decide_eq_true (c 25 _ rfl),
   of_decide_eq_true (c 26 _ rfl),
   of_decide_eq_true (c 27 _ rfl),
   of_decide_eq_true (c 28 _ rfl),
   of_decide_eq_true (c 29 _ rfl),
   of_decide_eq_true (c 30 _ rfl),
   oexB_ok (c 31 _ rfl),
   excCB_ok (c 32 _ rfl),
   xfB_ok (c 33 _ rfl),
   initB_ok (c 34 _ rfl),
   of_decide_eq_true (c 35 _ rfl),
   of_decide_eq_true (c 36 _ rfl),
   of_decide_eq_true (c 37 _ rfl),
   of_decide_eq_true (c 38 _ rfl),
   of_decide_eq_true (c 39 _ rfl),
   of_decide_eq_true (c 40 _ rfl),
   of_decide_eq_true (c 41 _ rfl),
   of_decide_eq_true (c 42 _ rfl),
   oexB_ok (c 43 _ rfl),
   excCB_ok (c 44 _ rfl),
   xfB_ok (c 45 _ rfl),
   initB_ok (c 46 _ rfl),
   of_decide_eq_true (c 47 _ rfl),
   of_decide_eq_true (c 48 _ rfl),
   of_decide_eq_true (c 49 _ rfl),
   of_decide_eq_true (c 50 _ rfl),
   of_decide_eq_true (c 51 _ rfl),
   of_decide_eq_true (c 52 _ rfl),
   of_decide_eq_true (c 53 _ rfl),
   of_decide_eq_true (c 54 _ rfl),
   He.mkr_ok (c 55 _ rfl),
   He.cls_ok (c 56 _ rfl),
   isCB_ok (c 57 _ rfl),
   of_decide_eq_true (c 58 _ rfl),
   of_decide_eq_true (c 59 _ rfl),
   of_decide_eq_true (c 60 _ rfl),
   of_decide_eq_true (c 61 _ rfl),
   of_decide_eq_true (c 62 _ rfl),
   He.noat_ok (c 63 _ rfl),
   He.noat_ok (c 64 _ rfl),
   He.noat_ok (c 65 _ rfl),
   He.str_ok X G (c 66 _ rfl)⟩
abbrev F__law_cell (K : PySem.W.Frag) : Fn := Fcell
theorem len__law_cell {K : PySem.W.Frag} (ds : List D) (R : Sl → Prop) (X : Xc → Prop) (h : F__law_cell K ds R X) : ds.length = 2 := fcell_len ds R X h
abbrev F__law_digits (K : PySem.W.Frag) : Fn := Fdigits
theorem len__law_digits {K : PySem.W.Frag} (ds : List D) (R : Sl → Prop) (X : Xc → Prop) (h : F__law_digits K ds R X) : ds.length = 2 := fdigits_len ds R X h
abbrev F_law (K : PySem.W.Frag) : Fn := Flaw
theorem len_law {K : PySem.W.Frag} (ds : List D) (R : Sl → Prop) (X : Xc → Prop) (h : F_law K ds R X) : ds.length = 1 := flaw_len ds R X h
end L

namespace L
open PySem PySem.Spec PyProof.Rows L2 Z
def strD (x : List Nat) : D := .str (tx x)
def chD (c : Nat) : D := .str (tx [c])
def natD (v : Nat) : D := .int v
def okD : Nat → D → Bool
  | 0, _ => false
  | _ + 1, .non => true
  | _ + 1, .bl _ => true
  | _ + 1, .int _ => true
  | _ + 1, .str _ => true
  | n + 1, .lst l => decide (l.length < 16777216) && l.all (okD n)
  | n + 1, .tup l => decide (l.length < 16777216) && l.all (okD n)
  | _ + 1, _ => false
def frzD : Nat → D → D
  | 0, d => d
  | n + 1, .lst l => .tup (l.map (frzD n))
  | n + 1, .tup l => .tup (l.map (frzD n))
  | _ + 1, d => d
def F__law_letters (K : PySem.W.Frag) : Fn := fun ds R _ => ∃ (r0 r1 r2 r3 : Int) (rest : List D), ds = [.lst (.int r0 :: .int r1 :: .int r2 :: .int r3 :: rest)] ∧ (0 ≤ r1 ∧ r1 < 8) ∧ (0 ≤ r2 ∧ r2 < 8) ∧ (0 ≤ r3 ∧ r3 < 8) ∧ R (.dat (.str (tx (lettersOf r0 r1 r2 r3))))
theorem len__law_letters {K : PySem.W.Frag} (ds : List D) (R : Sl → Prop) (X : Xc → Prop) (h : F__law_letters K ds R X) : ds.length = 1 := by obtain ⟨_, _, _, _, _, rfl, _⟩ := h; rfl
def xBLet (K : PySem.W.Frag) (ls : List Nat) : Xc := ⟨He.ga K "BadLetters", [("letters", .str (tx ls))]⟩
def F_are_letters (K : PySem.W.Frag) : Fn := fun ds R _ => ∃ (ls : List Nat) (b : Bool), ds = [.str (tx ls)] ∧ ls.length ≤ 20 ∧ (b = true ↔ Right ls) ∧ R (.dat (.bl b))
theorem len_are_letters {K : PySem.W.Frag} (ds : List D) (R : Sl → Prop) (X : Xc → Prop) (h : F_are_letters K ds R X) : ds.length = 1 := by obtain ⟨_, _, rfl, _⟩ := h; rfl
def F_check_letters (K : PySem.W.Frag) : Fn := fun ds R X => ∃ ls, ds = [.str (tx ls)] ∧ ls.length ≤ 20 ∧ (Right ls → R (.dat .non)) ∧ (¬ Right ls → X (xBLet K ls))
theorem len_check_letters {K : PySem.W.Frag} (ds : List D) (R : Sl → Prop) (X : Xc → Prop) (h : F_check_letters K ds R X) : ds.length = 1 := by obtain ⟨_, rfl, _⟩ := h; rfl
def F_frozen : Nat → PySem.W.Frag → Fn
  | 0, _ => fun _ _ _ => False
  | n + 1, _ => fun ds R _ => ∃ d, ds = [d] ∧ okD (n + 1) d = true ∧ R (.dat (frzD (n + 1) d))
def F_is_two_option (K : PySem.W.Frag) : Fn := fun ds R _ => ∃ (d : D) (sec st : Nat), ds = [d, .int sec, .int st] ∧ OptOk d ∧ R (.dat (.bl (rightO sec st d)))
theorem len_is_two_option {K : PySem.W.Frag} (ds : List D) (R : Sl → Prop) (X : Xc → Prop) (h : F_is_two_option K ds R X) : ds.length = 3 := by obtain ⟨_, _, _, rfl, _⟩ := h; rfl
def isI : D → Bool
  | .int _ => true
  | _ => false
def F_is_whole (K : PySem.W.Frag) : Fn := fun ds R _ => ∃ (d : D), ds = [d] ∧ flD d = true ∧ R (.dat (.bl (isI d)))
theorem len_is_whole {K : PySem.W.Frag} (ds : List D) (R : Sl → Prop) (X : Xc → Prop) (h : F_is_whole K ds R X) : ds.length = 1 := by obtain ⟨_, rfl, _⟩ := h; rfl
def F__law_whole (K : PySem.W.Frag) : Fn := fun ds R _ => ∃ (d : D), ds = [d] ∧ flD d = true ∧ R (.dat (.bl (isI d)))
theorem len__law_whole {K : PySem.W.Frag} (ds : List D) (R : Sl → Prop) (X : Xc → Prop) (h : F__law_whole K ds R X) : ds.length = 1 := by obtain ⟨_, rfl, _⟩ := h; rfl
def mcFs (lt : List Nat) (sec : Nat) (r : Rw) : List (Str × D) := [("letters", .str (tx lt)), ("second_symbols", .int sec), ("table", tbD r)]
def mcD (K : PySem.W.Frag) (lt : List Nat) (sec : Nat) (r : Rw) : D := .obj (He.ga K "TwoTape") (mcFs lt sec r)
def mcI (K : PySem.W.Frag) (lt : List Nat) (sec : Nat) (r : Rw) : Ow := .ins (He.ga K "TwoTape") (mcFs lt sec r) none
def xBTab (K : PySem.W.Frag) (s : Nat) : Xc := ⟨He.ga K "BadTable", [("state", .int s)]⟩
def xBT (K : PySem.W.Frag) (i : Nat) : Xc := ⟨He.ga K "BadText", [("index", .int i)]⟩
def optN : Option Nat → D
  | none => .non
  | some k => .int k
def F__law_two_option (K : PySem.W.Frag) : Fn := fun ds R _ => ∃ (r0 r1 r2 r3 r4 : Int) (one two sec st : Nat), ds = [.lst [.int r0, .int r1, .int r2, .int r3, .int r4], .int one, .int two, .int sec, .int st] ∧ (0 ≤ r1 ∧ r1 < 8) ∧ 0 ≤ r2 ∧ r2 < 1000 ∧ (0 ≤ r3 ∧ r3 < 8) ∧ 0 ≤ r4 ∧ 0 < sec ∧ sec < 1000 ∧ 0 < st ∧ st < 1000 ∧ ∀ d, rightO sec st d = true → R (.dat d)
theorem len__law_two_option {K : PySem.W.Frag} (ds : List D) (R : Sl → Prop) (X : Xc → Prop) (h : F__law_two_option K ds R X) : ds.length = 5 := by obtain ⟨_, _, _, _, _, _, _, _, _, rfl, _⟩ := h; rfl
def F__law_two_table (K : PySem.W.Frag) : Fn := fun ds R _ => ∃ (ns : List Int) (first sec st : Nat), ds = [.lst (ns.map .int), .int 4, .int first, .int sec, .int st] ∧ first ≤ 6 ∧ 0 < sec ∧ sec ≤ 102 ∧ 0 < st ∧ st ≤ 6 ∧ ∀ r, TabOk first sec st r → R (.dat (rwD r))
theorem len__law_two_table {K : PySem.W.Frag} (ds : List D) (R : Sl → Prop) (X : Xc → Prop) (h : F__law_two_table K ds R X) : ds.length = 5 := by obtain ⟨_, _, _, _, rfl, _⟩ := h; rfl
def F__law_handed (K : PySem.W.Frag) : FnM := fun ds M R _ => ∃ (r : Rw) (s : Nat), ds = [rwD r, .int s] ∧ RwOk r ∧ s < 8 ∧ MLst M ∧ ∀ a M', HdT M' a → View M' (.ref a) (hv s r) → R (.ref a) M'
theorem len__law_handed {K : PySem.W.Frag} (ds : List D) (M : Mem) (R : D → Mem → Prop) (X : Xc → Mem → Prop) (h : F__law_handed K ds M R X) : ds.length = 2 := by obtain ⟨_, _, rfl, _⟩ := h; rfl
def F__law_ruin (K : PySem.W.Frag) : FnM := fun ds M R _ => ∃ a, ds = [.ref a] ∧ HdT M a ∧ ∀ M', MLst M' → R .non M'
theorem len__law_ruin {K : PySem.W.Frag} (ds : List D) (M : Mem) (R : D → Mem → Prop) (X : Xc → Mem → Prop) (h : F__law_ruin K ds M R X) : ds.length = 1 := by obtain ⟨_, rfl, _⟩ := h; rfl
def F_is_two_row (K : PySem.W.Frag) : Fn := fun ds R _ => ∃ (it : List (List D)) (first sec st : Nat), ds = [.tup (it.map .tup), .int first, .int sec, .int st] ∧ it.length ≤ 100 ∧ (∀ os ∈ it, os.length ≤ 1000 ∧ ∀ d ∈ os, OptOk d) ∧ R (.dat (.bl (rightRow first sec st it)))
theorem len_is_two_row {K : PySem.W.Frag} (ds : List D) (R : Sl → Prop) (X : Xc → Prop) (h : F_is_two_row K ds R X) : ds.length = 4 := by obtain ⟨_, _, _, _, rfl, _⟩ := h; rfl
def F_TwoTape (K : PySem.W.Frag) : Fn := fun ds R X => ∃ (lt : List Nat) (sec : Nat) (d : D), ds = [.str (tx lt), .int sec, d] ∧ lt.length ≤ 20 ∧ (¬ Right lt → X (xBLet K lt)) ∧ (Right lt → ∃ r, okD 6 d = true ∧ frzD 6 d = tbD r ∧ RwOk r ∧ (wrongAt (1 + lt.length) sec r = none → R (.own (mcI K lt sec r))) ∧ ∀ s, wrongAt (1 + lt.length) sec r = some s → X (xBTab K s))
theorem len_TwoTape {K : PySem.W.Frag} (ds : List D) (R : Sl → Prop) (X : Xc → Prop) (h : F_TwoTape K ds R X) : ds.length = 3 := by obtain ⟨_, _, _, rfl, _⟩ := h; rfl
def F__law_other_option (K : PySem.W.Frag) : Fn := fun ds R _ => ∃ (kind : Nat) (a b c e : D) (far : Int) (sec st : Nat), ds = [.int kind, .tup [a, b, c, e], .int far, .int sec, .int st] ∧ kind < 28 ∧ flD a = true ∧ flD b = true ∧ flD c = true ∧ flD e = true ∧ ∀ d, OptOk d → R (.dat d)
theorem len__law_other_option {K : PySem.W.Frag} (ds : List D) (R : Sl → Prop) (X : Xc → Prop) (h : F__law_other_option K ds R X) : ds.length = 5 := by obtain ⟨_, _, _, _, _, _, _, _, rfl, _⟩ := h; rfl
def F__law_spoilt (K : PySem.W.Frag) : Fn := fun ds R _ => ∃ (r : Rw) (d0 d1 d2 d3 d4 : Int) (sec a b c : Nat), ds = [rwD r, .lst [.int d0, .int d1, .int d2, .int d3, .int d4], .int sec] ∧ RwB a b c r ∧ a < 1000 ∧ b < 1000 ∧ c < 1000 ∧ (0 ≤ d0 ∧ d0 < 34) ∧ 0 ≤ d1 ∧ 0 ≤ d2 ∧ 0 ≤ d3 ∧ (0 ≤ d4 ∧ d4 < 6) ∧ ∀ r', RwB (a + 1) (b + 1) (c + 1) r' → R (.dat (rwD r'))
theorem len__law_spoilt {K : PySem.W.Frag} (ds : List D) (R : Sl → Prop) (X : Xc → Prop) (h : F__law_spoilt K ds R X) : ds.length = 3 := by obtain ⟨_, _, _, _, _, _, _, _, _, _, rfl, _⟩ := h; rfl
def F__law_right_option (K : PySem.W.Frag) : Fn := fun ds R _ => ∃ (d : D) (sec st : Nat), ds = [d, .int sec, .int st] ∧ OptOk d ∧ R (.dat (.bl (rightO sec st d)))
theorem len__law_right_option {K : PySem.W.Frag} (ds : List D) (R : Sl → Prop) (X : Xc → Prop) (h : F__law_right_option K ds R X) : ds.length = 3 := by obtain ⟨_, _, _, rfl, _⟩ := h; rfl
def F__law_first_wrong (K : PySem.W.Frag) : Fn := fun ds R _ => ∃ (r : Rw) (first sec : Nat), ds = [rwD r, .int first, .int sec] ∧ RwOk r ∧ R (.dat (optN (wrongAt first sec r)))
theorem len__law_first_wrong {K : PySem.W.Frag} (ds : List D) (R : Sl → Prop) (X : Xc → Prop) (h : F__law_first_wrong K ds R X) : ds.length = 3 := by obtain ⟨_, _, _, rfl, _⟩ := h; rfl
def toldD (lt : List Nat) : Option Nat → Ow
  | none => .lst [.str (tx [108, 101, 116]), .int 0]
  | some s => .lst [.str (tx [115, 116, 97, 116, 101]), .int s]
def F__law_told (K : PySem.W.Frag) : Fn := fun ds R _ => ∃ (lt : List Nat) (sec : Nat) (d : D), ds = [.str (tx lt), .int sec, d] ∧ lt.length ≤ 20 ∧ (¬ Right lt → R (.own (.lst [.str (tx [108, 101, 116, 116, 101, 114, 115]), .str (tx lt)]))) ∧ (Right lt → ∃ r, okD 6 d = true ∧ frzD 6 d = tbD r ∧ RwOk r ∧ R (.own (toldD lt (wrongAt (1 + lt.length) sec r))))
theorem len__law_told {K : PySem.W.Frag} (ds : List D) (R : Sl → Prop) (X : Xc → Prop) (h : F__law_told K ds R X) : ds.length = 3 := by obtain ⟨_, _, _, rfl, _⟩ := h; rfl
def F__law_same_option (K : PySem.W.Frag) : Fn := fun ds R _ => ∃ (d : D) (sec st : Nat), ds = [d, d] ∧ rightO sec st d = true ∧ R (.dat (.bl true))
theorem len__law_same_option {K : PySem.W.Frag} (ds : List D) (R : Sl → Prop) (X : Xc → Prop) (h : F__law_same_option K ds R X) : ds.length = 2 := by obtain ⟨_, _, _, rfl, _⟩ := h; rfl
def F__law_same_table (K : PySem.W.Frag) : Fn := fun ds R _ => ∃ (r : Rw) (first sec st : Nat), ds = [tbD r, rwD r] ∧ TabOk first sec st r ∧ first ≤ 100 ∧ sec ≤ 1000 ∧ st ≤ 100 ∧ R (.dat (.bl true))
theorem len__law_same_table {K : PySem.W.Frag} (ds : List D) (R : Sl → Prop) (X : Xc → Prop) (h : F__law_same_table K ds R X) : ds.length = 2 := by obtain ⟨_, _, _, _, rfl, _⟩ := h; rfl
def F__law_same_machine (K : PySem.W.Frag) : Fn := fun ds R _ => ∃ (lt : List Nat) (r : Rw) (first sec st : Nat), ds = [mcD K lt sec r, .str (tx lt), .int sec, rwD r] ∧ TabOk first sec st r ∧ first ≤ 100 ∧ sec ≤ 1000 ∧ st ≤ 100 ∧ R (.dat (.bl true))
theorem len__law_same_machine {K : PySem.W.Frag} (ds : List D) (R : Sl → Prop) (X : Xc → Prop) (h : F__law_same_machine K ds R X) : ds.length = 4 := by obtain ⟨_, _, _, _, _, rfl, _⟩ := h; rfl
def F_play_two (K : PySem.W.Frag) : Fn := fun ds R X => ∃ (lt txt : List Nat) (r : Rw) (sec st most : Nat), ds = [mcD K lt sec r, .str (tx txt), .int most] ∧ TabOk (1 + lt.length) sec st r ∧ 0 < sec ∧ 0 < st ∧ lt.length ≤ 20 ∧ txt.length ≤ 10000 ∧ most ≤ 100000 ∧
  ((∀ c ∈ txt, c ∈ lt) → ∀ m v, Res r (symsOf lt txt) most m v → R (.dat (.tup [.int m, wD v]))) ∧ ∀ i, badIdx lt txt = some i → X (xBT K i)
theorem len_play_two {K : PySem.W.Frag} (ds : List D) (R : Sl → Prop) (X : Xc → Prop) (h : F_play_two K ds R X) : ds.length = 3 := by obtain ⟨_, _, _, _, _, _, rfl, _⟩ := h; rfl
def F__law_bad_index (K : PySem.W.Frag) : Fn := fun ds R _ => ∃ (lt txt : List Nat) (r : Rw) (sec st most : Nat), ds = [mcD K lt sec r, .str (tx txt), .int most] ∧ TabOk (1 + lt.length) sec st r ∧ 0 < sec ∧ 0 < st ∧ lt.length ≤ 20 ∧ txt.length ≤ 10000 ∧ most ≤ 100000 ∧ R (.dat (optN (badIdx lt txt)))
theorem len__law_bad_index {K : PySem.W.Frag} (ds : List D) (R : Sl → Prop) (X : Xc → Prop) (h : F__law_bad_index K ds R X) : ds.length = 3 := by obtain ⟨_, _, _, _, _, _, rfl, _⟩ := h; rfl
def F__law_refuses_texts (K : PySem.W.Frag) : Fn := fun ds R _ => ∃ (lt txt : List Nat) (r : Rw) (sec st most : Nat) (d0 d1 d2 d3 : Int), ds = [mcD K lt sec r, .str (tx lt), .str (tx txt), .lst [.int d0, .int d1, .int d2, .int d3], .int most] ∧ TabOk (1 + lt.length) sec st r ∧ 0 < sec ∧ 0 < st ∧ lt.length ≤ 20 ∧ txt.length ≤ 1000 ∧ most ≤ 100000 ∧ (0 ≤ d0 ∧ d0 < 40) ∧ 0 ≤ d1 ∧ (0 ≤ d2 ∧ d2 < 40) ∧ 0 ≤ d3 ∧ R (.dat (.bl true))
theorem len__law_refuses_texts {K : PySem.W.Frag} (ds : List D) (R : Sl → Prop) (X : Xc → Prop) (h : F__law_refuses_texts K ds R X) : ds.length = 5 := by obtain ⟨_, _, _, _, _, _, _, _, _, _, rfl, _⟩ := h; rfl
def F__law_wrong_letters (K : PySem.W.Frag) : Fn := fun ds R _ => ∃ (lt : List Nat) (sec : Nat) (r : Rw) (number : Nat), ds = [.str (tx lt), .int sec, rwD r, .int number] ∧ Right lt ∧ RwOk r ∧ number < 12 ∧ R (.dat (.bl true))
theorem len__law_wrong_letters {K : PySem.W.Frag} (ds : List D) (R : Sl → Prop) (X : Xc → Prop) (h : F__law_wrong_letters K ds R X) : ds.length = 4 := by obtain ⟨_, _, _, _, rfl, _⟩ := h; rfl
def F__law_walk (K : PySem.W.Frag) : Fn := fun ds R _ => ∃ (r : Rw) (first sec st : Nat) (syms : List Nat) (most : Nat), ds = [rwD r, .lst (syms.map natD), .int most] ∧ TabOk first sec st r ∧ 0 < first ∧ 0 < sec ∧ 0 < st ∧ (∀ s ∈ syms, s < first) ∧ syms.length ≤ 10000 ∧ most ≤ 100000 ∧ ∀ m v, Res r syms most m v → R (.dat (.tup [.int m, wD v]))
theorem len__law_walk {K : PySem.W.Frag} (ds : List D) (R : Sl → Prop) (X : Xc → Prop) (h : F__law_walk K ds R X) : ds.length = 3 := by obtain ⟨_, _, _, _, _, _, rfl, _⟩ := h; rfl
def F__law_same_play (K : PySem.W.Frag) : Fn := fun ds R _ => ∃ (m : Nat) (v : Option Bool), ds = [.tup [.int m, wD v], .int m, wD v] ∧ R (.dat (.bl true))
theorem len__law_same_play {K : PySem.W.Frag} (ds : List D) (R : Sl → Prop) (X : Xc → Prop) (h : F__law_same_play K ds R X) : ds.length = 3 := by obtain ⟨_, _, rfl, _⟩ := h; rfl
def F__law_plays (K : PySem.W.Frag) : Fn := fun ds R _ => ∃ (lt txt : List Nat) (r : Rw) (sec st most : Nat) (other : Int), ds = [mcD K lt sec r, rwD r, .str (tx lt), .str (tx txt), .int most, .int other] ∧ TabOk (1 + lt.length) sec st r ∧ 0 < sec ∧ 0 < st ∧ lt.length ≤ 20 ∧ txt.length ≤ 1000 ∧ most ≤ 10000 ∧ 0 ≤ other ∧ (∀ c ∈ txt, c ∈ lt) ∧ R (.dat (.bl true))
theorem len__law_plays {K : PySem.W.Frag} (ds : List D) (R : Sl → Prop) (X : Xc → Prop) (h : F__law_plays K ds R X) : ds.length = 6 := by obtain ⟨_, _, _, _, _, _, _, rfl, _⟩ := h; rfl
def F__law_changed_tables (K : PySem.W.Frag) : Fn := fun ds R _ => ∃ (ns : List Int) (lt : List Nat) (sec : Nat) (r : Rw) (style : Nat), ds = [.lst (ns.map .int), .str (tx lt), .int sec, rwD r, .int style] ∧ Right lt ∧ RwB 4 4 100 r ∧ style < 8 ∧ ∀ rs : List Rw, (∀ q ∈ rs, RwOk q ∧ wrongAt (1 + lt.length) sec q = none) → rs.length ≤ 6 → R (.own (.lst (rs.map fun q => .lst [mcD K lt sec q, rwD q])))
theorem len__law_changed_tables {K : PySem.W.Frag} (ds : List D) (R : Sl → Prop) (X : Xc → Prop) (h : F__law_changed_tables K ds R X) : ds.length = 5 := by obtain ⟨_, _, _, _, _, rfl, _⟩ := h; rfl
theorem len_frozen (n : Nat) {K : PySem.W.Frag} (ds : List D) (R : Sl → Prop) (X : Xc → Prop) (h : F_frozen n K ds R X) : ds.length = 1 := by
  cases n with
  | zero => exact h.elim
  | succ n => obtain ⟨_, rfl, _⟩ := h; rfl
end L

namespace L
open PySem PySem.Spec PyProof.Rows L2 Z

section
variable {P : Program} {w : World} {K : PySem.W.Frag} {mg : Str → Option Value} {base : Heap}
def t__law_digits (w : World) (K : PySem.W.Frag) (W : WX) : TS :=
  (tSeq (tAsg (tLst tNil) (gName 2))
  (tSeq (tAsg (tCB zInt (tCons (tVar 0) tNil)) (gName 3))
  (tSeq (tIfS (tTest (tOp zGe (tVar 3) (tOp zPow (tC (.int 10)) (tC (.int 18))))) (tSeq (tAsg (tOp zSub (tVar 3) (tOp zPow (tC (.int 10)) (tC (.int 18)))) (gName 3))
  (tSeq (tFor (iList K (tVar 1)) (gName 4) (tSeq (tDrop (tBM K "list" rAppend (tVar 2) (tCons (tOp zMod (tCB zInt (tCons (tVar 3) tNil)) (tVar 4)) tNil)))
  (tAsg (tOp zDiv (tCB zInt (tCons (tVar 3) tNil)) (tVar 4)) (gName 3))))
  (tRet (tVar 2)))) tNext)
  (tSeq (tAsg (tOp zMod (tCB zInt (tCons (tVar 3) tNil)) (tC (.int 2147483629))) (gName 5))
  (tSeq (tFor (iRng1 (tCons (tCB (zLen K) (tCons (tVar 1) tNil)) tNil)) (gName 6) (tSeq (tAsg (tOp zMod (tCB zInt (tCons (tOp (zAdd K) (tOp (zAdd K) (tOp zMul (tVar 5) (tC (.int 48271))) (tOp zMul (tC (.int 974711)) (tVar 6))) (tC (.int 12345))) tNil)) (tC (.int 2147483647))) (gName 5))
  (tSeq (tAsg (tOp zMod (tCB zInt (tCons (tOp zMul (tVar 5) (tOp (zAdd K) (tOp zDiv (tVar 5) (tC (.int 65537))) (tC (.int 3)))) tNil)) (tC (.int 2147483629))) (gName 7))
  (tDrop (tBM K "list" rAppend (tVar 2) (tCons (tOp zMod (tOp zDiv (tVar 7) (tC (.int 19))) (tOp (zIx K) (tVar 1) (tVar 6))) tNil))))))
  (tRet (tVar 2)))))))
theorem ps__law_digits (T : Tx w K mg)  {f : Addr} {cdv : Value} {A : Around} {outer : List Env} {s : Shared} {H : Hp} {E : XK} (hr : Room 0 (A.deeper (envOfC "_law_digits" (defScope s__law_digits) s.heap.objs.size f cdv))) :
    PSs (cxOf (L2.CX P w) P w K mg base N__law_digits "_law_digits" (defScope s__law_digits) f cdv A outer s H E) (defBody s__law_digits) (t__law_digits w K (fun cls d _ H' => E cls d H')) := by
  have nd := sc__law_digits.nd
  have hu := hr.units
  have tk : Takes (cxOf (L2.CX P w) P w K mg base N__law_digits "_law_digits" (defScope s__law_digits) f cdv A outer s H E) (fun cls d _ H' => E cls d H') := takes_of rfl rfl rfl rfl
  exact (pss_cons (ps_set (i := 2) nd rfl (Or.inl rfl) (pe_lst pa_nil))
  (pss_cons (ps_set (i := 3) nd rfl (Or.inl rfl) (pe_callTy call_zInt (by rfl) T.f_int bt_int (pa_cons (pv 0) pa_nil)))
  (pss_cons (ps_if (pt_cmpR op_zGe (pv 3) (pe_op op_zPow pe_int pe_int) (nomark _)) (pss_cons (ps_set (i := 3) nd rfl (Or.inl rfl) (pe_op op_zSub (pv 3) (pe_op op_zPow pe_int pe_int)))
  (pss_cons (ps_for (passes_of rfl) rfl (pi_list (pv 1)) (pg_name (i := 4) nd rfl (Or.inl rfl)) (pss_cons (ps_expr (pe_bm PySem.F.plainAttrs_list PySem.F.slot_list_append PySem.F.type_list_append mt_append (pv 2) (pa_cons (pe_op op_zMod (pe_callTy call_zInt (by rfl) T.f_int bt_int (pa_cons (pv 3) pa_nil)) (pv 4)) pa_nil)))
  (pss_one (ps_set (i := 3) nd rfl (Or.inl rfl) (pe_op op_zDiv (pe_callTy call_zInt (by rfl) T.f_int bt_int (pa_cons (pv 3) pa_nil)) (pv 4))))))
  (pss_one (ps_ret (pv 2))))) pss_nil)
  (pss_cons (ps_set (i := 5) nd rfl (Or.inl rfl) (pe_op op_zMod (pe_callTy call_zInt (by rfl) T.f_int bt_int (pa_cons (pv 3) pa_nil)) pe_int))
  (pss_cons (ps_for (passes_of rfl) rfl (pi_range1 (by rfl) T.f_range (pa_cons (pe_callB call_zLen (by rfl) T.f_len bt_len (pa_cons (pv 1) pa_nil)) pa_nil)) (pg_name (i := 6) nd rfl (Or.inl rfl)) (pss_cons (ps_set (i := 5) nd rfl (Or.inl rfl) (pe_op op_zMod (pe_callTy call_zInt (by rfl) T.f_int bt_int (pa_cons (pe_op op_zAdd (pe_op op_zAdd (pe_op op_zMul (pv 5) pe_int) (pe_op op_zMul pe_int (pv 6))) pe_int) pa_nil)) pe_int))
  (pss_cons (ps_set (i := 7) nd rfl (Or.inl rfl) (pe_op op_zMod (pe_callTy call_zInt (by rfl) T.f_int bt_int (pa_cons (pe_op op_zMul (pv 5) (pe_op op_zAdd (pe_op op_zDiv (pv 5) pe_int) pe_int)) pa_nil)) pe_int))
  (pss_one (ps_expr (pe_bm PySem.F.plainAttrs_list PySem.F.slot_list_append PySem.F.type_list_append mt_append (pv 2) (pa_cons (pe_op op_zMod (pe_op op_zDiv (pv 7) pe_int) (pe_ix (ix_z hu) (pv 1) (pv 6) (fun _ _ => rfl))) pa_nil)))))))
  (pss_one (ps_ret (pv 2))))))))
def t__law_letters (w : World) (K : PySem.W.Frag) (W : WX) : TS :=
  (tSeq (tAsg (tC (.str (tx [97, 98, 99, 100, 101, 102, 103, 104, 105, 106, 107, 108, 109, 110, 111, 112, 113, 114, 115, 116, 117, 118, 119, 120, 121, 122]))) (gName 1))
  (tSeq (tAsg (tOp (zAdd K) (tOp (zAdd K) (tOp (zIx K) (tVar 0) (tC (.int 1))) (tC (.int 1))) (tOp (zIx K) (tVar 0) (tC (.int 2)))) (gName 2))
  (tSeq (tAsg (tOp (zAdd K) (tOp (zAdd K) (tVar 2) (tC (.int 1))) (tOp (zIx K) (tVar 0) (tC (.int 3)))) (gName 3))
  (tSeq (tIfS (tTest (tOp (zEq K) (tOp (zIx K) (tVar 0) (tC (.int 0))) (tC (.int 0)))) (tRet (tOp (zIx K) (tVar 1) (tOp (zIx K) (tVar 0) (tC (.int 1))))) tNext)
  (tSeq (tIfS (tTest (tOp (zEq K) (tOp (zIx K) (tVar 0) (tC (.int 0))) (tC (.int 1)))) (tRet (tOp (zAdd K) (tOp (zAdd K) (tOp (zIx K) (tVar 1) (tOp (zIx K) (tVar 0) (tC (.int 1)))) (tOp (zIx K) (tVar 1) (tVar 2))) (tOp (zIx K) (tVar 1) (tVar 3)))) tNext)
  (tRet (tOp (zAdd K) (tOp (zIx K) (tVar 1) (tOp (zIx K) (tVar 0) (tC (.int 1)))) (tOp (zIx K) (tVar 1) (tVar 2)))))))))
theorem ps__law_letters (T : Tx w K mg)  {f : Addr} {cdv : Value} {A : Around} {outer : List Env} {s : Shared} {H : Hp} {E : XK} (hr : Room 0 (A.deeper (envOfC "_law_letters" (defScope s__law_letters) s.heap.objs.size f cdv))) :
    PSs (cxOf (L2.CX P w) P w K mg base N__law_letters "_law_letters" (defScope s__law_letters) f cdv A outer s H E) (defBody s__law_letters) (t__law_letters w K (fun cls d _ H' => E cls d H')) := by
  have nd := sc__law_letters.nd
  have hu := hr.units
  have tk : Takes (cxOf (L2.CX P w) P w K mg base N__law_letters "_law_letters" (defScope s__law_letters) f cdv A outer s H E) (fun cls d _ H' => E cls d H') := takes_of rfl rfl rfl rfl
  exact (pss_cons (ps_set (i := 1) nd rfl (Or.inl rfl) pe_str)
  (pss_cons (ps_set (i := 2) nd rfl (Or.inl rfl) (pe_op op_zAdd (pe_op op_zAdd (pe_ix (ix_z hu) (pv 0) pe_int (fun _ _ => rfl)) pe_int) (pe_ix (ix_z hu) (pv 0) pe_int (fun _ _ => rfl))))
  (pss_cons (ps_set (i := 3) nd rfl (Or.inl rfl) (pe_op op_zAdd (pe_op op_zAdd (pv 2) pe_int) (pe_ix (ix_z hu) (pv 0) pe_int (fun _ _ => rfl))))
  (pss_cons (ps_if (pt_cmpR (op_zEq hu) (pe_ix (ix_z hu) (pv 0) pe_int (fun _ _ => rfl)) pe_int (nomark _)) (pss_one (ps_ret (pe_ix (ix_z hu) (pv 1) (pe_ix (ix_z hu) (pv 0) pe_int (fun _ _ => rfl)) (fun _ _ => rfl)))) pss_nil)
  (pss_cons (ps_if (pt_cmpR (op_zEq hu) (pe_ix (ix_z hu) (pv 0) pe_int (fun _ _ => rfl)) pe_int (nomark _)) (pss_one (ps_ret (pe_op op_zAdd (pe_op op_zAdd (pe_ix (ix_z hu) (pv 1) (pe_ix (ix_z hu) (pv 0) pe_int (fun _ _ => rfl)) (fun _ _ => rfl)) (pe_ix (ix_z hu) (pv 1) (pv 2) (fun _ _ => rfl))) (pe_ix (ix_z hu) (pv 1) (pv 3) (fun _ _ => rfl))))) pss_nil)
  (pss_one (ps_ret (pe_op op_zAdd (pe_ix (ix_z hu) (pv 1) (pe_ix (ix_z hu) (pv 0) pe_int (fun _ _ => rfl)) (fun _ _ => rfl)) (pe_ix (ix_z hu) (pv 1) (pv 2) (fun _ _ => rfl))))))))))
def t__law_cell (w : World) (K : PySem.W.Frag) (W : WX) : TS :=
  (tSeq (tIfS (tTest (tOp zLt (tVar 1) (tCB (zLen K) (tCons (tVar 0) tNil)))) (tRet (tOp zMod (tCB zInt (tCons (tOp (zIx K) (tVar 0) (tVar 1)) tNil)) (tOp zMul (tOp zPow (tC (.int 10)) (tC (.int 60))) (tOp zPow (tC (.int 10)) (tC (.int 60)))))) tNext)
  (tSeq (tAsg (tC (.int 17)) (gName 2))
  (tSeq (tFor (iList K (tVar 0)) (gName 3) (tAsg (tOp zMod (tCB zInt (tCons (tOp (zAdd K) (tOp zMul (tVar 2) (tC (.int 31))) (tOp zMod (tCB zInt (tCons (tVar 3) tNil)) (tC (.int 1000003)))) tNil)) (tC (.int 1000003))) (gName 2)))
  (tRet (tOp zMod (tCB zInt (tCons (tOp zMul (tOp zMul (tOp (zAdd K) (tVar 2) (tC (.int 7))) (tOp (zAdd K) (tVar 1) (tC (.int 3)))) (tC (.int 69621))) tNil)) (tC (.int 2147483647)))))))
theorem ps__law_cell (T : Tx w K mg)  {f : Addr} {cdv : Value} {A : Around} {outer : List Env} {s : Shared} {H : Hp} {E : XK} (hr : Room 0 (A.deeper (envOfC "_law_cell" (defScope s__law_cell) s.heap.objs.size f cdv))) :
    PSs (cxOf (L2.CX P w) P w K mg base N__law_cell "_law_cell" (defScope s__law_cell) f cdv A outer s H E) (defBody s__law_cell) (t__law_cell w K (fun cls d _ H' => E cls d H')) := by
  have nd := sc__law_cell.nd
  have hu := hr.units
  have tk : Takes (cxOf (L2.CX P w) P w K mg base N__law_cell "_law_cell" (defScope s__law_cell) f cdv A outer s H E) (fun cls d _ H' => E cls d H') := takes_of rfl rfl rfl rfl
  exact (pss_cons (ps_if (pt_cmpR op_zLt (pv 1) (pe_callB call_zLen (by rfl) T.f_len bt_len (pa_cons (pv 0) pa_nil)) (nomark _)) (pss_one (ps_ret (pe_op op_zMod (pe_callTy call_zInt (by rfl) T.f_int bt_int (pa_cons (pe_ix (ix_z hu) (pv 0) (pv 1) (fun _ _ => rfl)) pa_nil)) (pe_op op_zMul (pe_op op_zPow pe_int pe_int) (pe_op op_zPow pe_int pe_int))))) pss_nil)
  (pss_cons (ps_set (i := 2) nd rfl (Or.inl rfl) pe_int)
  (pss_cons (ps_for (passes_of rfl) rfl (pi_list (pv 0)) (pg_name (i := 3) nd rfl (Or.inl rfl)) (pss_one (ps_set (i := 2) nd rfl (Or.inl rfl) (pe_op op_zMod (pe_callTy call_zInt (by rfl) T.f_int bt_int (pa_cons (pe_op op_zAdd (pe_op op_zMul (pv 2) pe_int) (pe_op op_zMod (pe_callTy call_zInt (by rfl) T.f_int bt_int (pa_cons (pv 3) pa_nil)) pe_int)) pa_nil)) pe_int))))
  (pss_one (ps_ret (pe_op op_zMod (pe_callTy call_zInt (by rfl) T.f_int bt_int (pa_cons (pe_op op_zMul (pe_op op_zMul (pe_op op_zAdd (pv 2) pe_int) (pe_op op_zAdd (pv 1) pe_int)) pe_int) pa_nil)) pe_int))))))
def t__law_two_option (w : World) (K : PySem.W.Frag) (W : WX) : TS :=
  (tSeq (tIfS (tOr (tTest (tOp (zEq K) (tOp (zIx K) (tVar 0) (tC (.int 0))) (tC (.int 0)))) (tAnd (tTest (tOp (zEq K) (tVar 1) (tC (.int 0)))) (tTest (tOp zLt (tOp (zIx K) (tVar 0) (tC (.int 0))) (tC (.int 3)))))) (tRet (tOp (zEq K) (tOp zMod (tOp (zIx K) (tVar 0) (tC (.int 4))) (tC (.int 2))) (tC (.int 1)))) tNext)
  (tSeq (tAsg (tOp zMod (tCB zInt (tCons (tOp (zAdd K) (tOp zMul (tOp (zIx K) (tVar 0) (tC (.int 2))) (tC (.int 13))) (tVar 2)) tNil)) (tVar 3)) (gName 5))
  (tRet (tTup (tCons (tOp (zIx K) (tLst (tCons (tC (.int 1)) (tCons (tC (.int 1)) (tCons (tC (.int 1)) (tCons (tC (.int 1)) (tCons (tC (.int 0)) (tCons (tC (.int 0)) (tCons (tUn (rU fun i => .int (-i)) (tC (.int 1))) (tCons (tUn (rU fun i => .int (-i)) (tC (.int 1))) tNil))))))))) (tOp (zIx K) (tVar 0) (tC (.int 1)))) (tCons (tVar 5) (tCons (tOp (zIx K) (tLst (tCons (tC (.int 1)) (tCons (tC (.int 1)) (tCons (tC (.int 1)) (tCons (tUn (rU fun i => .int (-i)) (tC (.int 1))) (tCons (tUn (rU fun i => .int (-i)) (tC (.int 1))) (tCons (tUn (rU fun i => .int (-i)) (tC (.int 1))) (tCons (tC (.int 0)) (tCons (tC (.int 0)) tNil))))))))) (tOp (zIx K) (tVar 0) (tC (.int 3)))) (tCons (tOp zMod (tCB zInt (tCons (tOp (zIx K) (tVar 0) (tC (.int 4))) tNil)) (tVar 4)) tNil))))))))
theorem ps__law_two_option (T : Tx w K mg)  {f : Addr} {cdv : Value} {A : Around} {outer : List Env} {s : Shared} {H : Hp} {E : XK} (hr : Room 0 (A.deeper (envOfC "_law_two_option" (defScope s__law_two_option) s.heap.objs.size f cdv))) :
    PSs (cxOf (L2.CX P w) P w K mg base N__law_two_option "_law_two_option" (defScope s__law_two_option) f cdv A outer s H E) (defBody s__law_two_option) (t__law_two_option w K (fun cls d _ H' => E cls d H')) := by
  have nd := sc__law_two_option.nd
  have hu := hr.units
  have tk : Takes (cxOf (L2.CX P w) P w K mg base N__law_two_option "_law_two_option" (defScope s__law_two_option) f cdv A outer s H E) (fun cls d _ H' => E cls d H') := takes_of rfl rfl rfl rfl
  exact (pss_cons (ps_if (PW.pt (pw_or (pt_cmpR (op_zEq hu) (pe_ix (ix_z hu) (pv 0) pe_int (fun _ _ => rfl)) pe_int (nomark _)) (pw_or1 (PW.pt (pw_and (pt_cmpR (op_zEq hu) (pv 1) pe_int (nomark _)) (pw_and1 (pt_cmpR op_zLt (pe_ix (ix_z hu) (pv 0) pe_int (fun _ _ => rfl)) pe_int (nomark _)))))))) (pss_one (ps_ret (pe_cmpR (op_zEq hu) (pe_op op_zMod (pe_ix (ix_z hu) (pv 0) pe_int (fun _ _ => rfl)) pe_int) pe_int (nomark _)))) pss_nil)
  (pss_cons (ps_set (i := 5) nd rfl (Or.inl rfl) (pe_op op_zMod (pe_callTy call_zInt (by rfl) T.f_int bt_int (pa_cons (pe_op op_zAdd (pe_op op_zMul (pe_ix (ix_z hu) (pv 0) pe_int (fun _ _ => rfl)) pe_int) (pv 2)) pa_nil)) (pv 3)))
  (pss_one (ps_ret (pe_tup (pa_cons (pe_ix (ix_z hu) (pe_lst (pa_cons pe_int (pa_cons pe_int (pa_cons pe_int (pa_cons pe_int (pa_cons pe_int (pa_cons pe_int (pa_cons (pe_un un_neg pe_int) (pa_cons (pe_un un_neg pe_int) pa_nil))))))))) (pe_ix (ix_z hu) (pv 0) pe_int (fun _ _ => rfl)) (fun _ _ => rfl)) (pa_cons (pv 5) (pa_cons (pe_ix (ix_z hu) (pe_lst (pa_cons pe_int (pa_cons pe_int (pa_cons pe_int (pa_cons (pe_un un_neg pe_int) (pa_cons (pe_un un_neg pe_int) (pa_cons (pe_un un_neg pe_int) (pa_cons pe_int (pa_cons pe_int pa_nil))))))))) (pe_ix (ix_z hu) (pv 0) pe_int (fun _ _ => rfl)) (fun _ _ => rfl)) (pa_cons (pe_op op_zMod (pe_callTy call_zInt (by rfl) T.f_int bt_int (pa_cons (pe_ix (ix_z hu) (pv 0) pe_int (fun _ _ => rfl)) pa_nil)) (pv 4)) pa_nil)))))))))
def t__law_two_table (w : World) (K : PySem.W.Frag) (W : WX) : TS :=
  (tSeq (tAsg (tLst tNil) (gName 5))
  (tSeq (tFor (iRng1 (tCons (tVar 4) tNil)) (gName 6) (tSeq (tAsg (tCallS (spz K (F__law_digits K)) (WE W) (tCons (tCallS (spz K (F__law_cell K)) (WE W) (tCons (tVar 0) (tCons (tOp (zAdd K) (tVar 1) (tVar 6)) tNil))) (tCons (tOp zMul (tLst (tCons (tC (.int 12)) (tCons (tC (.int 8)) (tCons (tC (.int 8)) (tCons (tC (.int 8)) (tCons (tC (.int 8)) tNil)))))) (tC (.int 25))) tNil))) (gName 7))
  (tSeq (tAsg (tLst tNil) (gName 8))
  (tSeq (tFor (iRng1 (tCons (tVar 2) tNil)) (gName 9) (tSeq (tAsg (tLst tNil) (gName 10))
  (tSeq (tFor (iRng1 (tCons (tVar 3) tNil)) (gName 11) (tSeq (tAsg (tOp zMul (tC (.int 5)) (tOp zMod (tCB zInt (tCons (tOp (zAdd K) (tOp zMul (tVar 9) (tVar 3)) (tVar 11)) tNil)) (tC (.int 25)))) (gName 12))
  (tDrop (tBM K "list" rAppend (tVar 10) (tCons (tCallS (spz K (F__law_two_option K)) (WE W) (tCons (tSl (zSl K) (tVar 7) (tPart (tVar 12)) (tPart (tOp (zAdd K) (tVar 12) (tC (.int 5))))) (tCons (tVar 9) (tCons (tVar 11) (tCons (tVar 3) (tCons (tVar 4) tNil)))))) tNil)))))
  (tDrop (tBM K "list" rAppend (tVar 8) (tCons (tVar 10) tNil))))))
  (tDrop (tBM K "list" rAppend (tVar 5) (tCons (tVar 8) tNil)))))))
  (tRet (tVar 5))))
theorem ps__law_two_table (T : Tx w K mg) (D__law_cell : Df P w K mg base "_law_cell" ["script", "k"] 1 (spz K (F__law_cell K))) (D__law_digits : Df P w K mg base "_law_digits" ["cell", "sizes"] 1 (spz K (F__law_digits K))) (D__law_two_option : Df P w K mg base "_law_two_option" ["row", "one", "two", "second", "states"] 1 (spz K (F__law_two_option K))) {f : Addr} {cdv : Value} {A : Around} {outer : List Env} {s : Shared} {H : Hp} {E : XK} (hr : Room 1 (A.deeper (envOfC "_law_two_table" (defScope s__law_two_table) s.heap.objs.size f cdv))) :
    PSs (cxOf (L2.CX P w) P w K mg base N__law_two_table "_law_two_table" (defScope s__law_two_table) f cdv A outer s H E) (defBody s__law_two_table) (t__law_two_table w K (fun cls d _ H' => E cls d H')) := by
  have nd := sc__law_two_table.nd
  have hu := hr.units
  have tk : Takes (cxOf (L2.CX P w) P w K mg base N__law_two_table "_law_two_table" (defScope s__law_two_table) f cdv A outer s H E) (fun cls d _ H' => E cls d H') := takes_of rfl rfl rfl rfl
  exact (pss_cons (ps_set (i := 5) nd rfl (Or.inl rfl) (pe_lst pa_nil))
  (pss_cons (ps_for (passes_of rfl) rfl (pi_range1 (by rfl) T.f_range (pa_cons (pv 4) pa_nil)) (pg_name (i := 6) nd rfl (Or.inl rfl)) (pss_cons (ps_set (i := 7) nd rfl (Or.inl rfl) (pe_callZ D__law_digits (hr.mono (by omega)) tk (pa_cons (pe_callZ D__law_cell (hr.mono (by omega)) tk (pa_cons (pv 0) (pa_cons (pe_op op_zAdd (pv 1) (pv 6)) pa_nil))) (pa_cons (pe_op op_zMul (pe_lst (pa_cons pe_int (pa_cons pe_int (pa_cons pe_int (pa_cons pe_int (pa_cons pe_int pa_nil)))))) pe_int) pa_nil))))
  (pss_cons (ps_set (i := 8) nd rfl (Or.inl rfl) (pe_lst pa_nil))
  (pss_cons (ps_for (passes_of rfl) rfl (pi_range1 (by rfl) T.f_range (pa_cons (pv 2) pa_nil)) (pg_name (i := 9) nd rfl (Or.inl rfl)) (pss_cons (ps_set (i := 10) nd rfl (Or.inl rfl) (pe_lst pa_nil))
  (pss_cons (ps_for (passes_of rfl) rfl (pi_range1 (by rfl) T.f_range (pa_cons (pv 3) pa_nil)) (pg_name (i := 11) nd rfl (Or.inl rfl)) (pss_cons (ps_set (i := 12) nd rfl (Or.inl rfl) (pe_op op_zMul pe_int (pe_op op_zMod (pe_callTy call_zInt (by rfl) T.f_int bt_int (pa_cons (pe_op op_zAdd (pe_op op_zMul (pv 9) (pv 3)) (pv 11)) pa_nil)) pe_int)))
  (pss_one (ps_expr (pe_bm PySem.F.plainAttrs_list PySem.F.slot_list_append PySem.F.type_list_append mt_append (pv 10) (pa_cons (pe_callZ D__law_two_option (hr.mono (by omega)) tk (pa_cons (pe_slice sl_z (pv 7) (po_some (pv 12)) (po_some (pe_op op_zAdd (pv 12) pe_int))) (pa_cons (pv 9) (pa_cons (pv 11) (pa_cons (pv 3) (pa_cons (pv 4) pa_nil)))))) pa_nil))))))
  (pss_one (ps_expr (pe_bm PySem.F.plainAttrs_list PySem.F.slot_list_append PySem.F.type_list_append mt_append (pv 8) (pa_cons (pv 10) pa_nil)))))))
  (pss_one (ps_expr (pe_bm PySem.F.plainAttrs_list PySem.F.slot_list_append PySem.F.type_list_append mt_append (pv 5) (pa_cons (pv 8) pa_nil))))))))
  (pss_one (ps_ret (pv 5)))))
def t__law_handed (w : World) (K : PySem.W.Frag) (W : WX) : TS :=
  (tSeq (tAsg (tLst tNil) (gName 2))
  (tSeq (tFor (iList K (tVar 0)) (gName 3) (tSeq (tAsg (tLst tNil) (gName 4))
  (tSeq (tFor (iList K (tVar 3)) (gName 5) (tSeq (tAsg (tLst tNil) (gName 6))
  (tSeq (tFor (iList K (tVar 5)) (gName 7) (tIfS (tAnd (tB (tCB (zIsi K) (tCons (tVar 7) (tCons (tC (.ty "tuple")) tNil)))) (tTest (tOp (zEq K) (tOp zMod (tCB zInt (tCons (tVar 1) tNil)) (tC (.int 2))) (tC (.int 1))))) (tDrop (tBM K "list" rAppend (tVar 6) (tCons (tCB (zList K) (tCons (tVar 7) tNil)) tNil))) (tDrop (tBM K "list" rAppend (tVar 6) (tCons (tVar 7) tNil)))))
  (tIfS (tTest (tOp (zEq K) (tOp zMod (tOp zDiv (tCB zInt (tCons (tVar 1) tNil)) (tC (.int 2))) (tC (.int 2))) (tC (.int 1)))) (tDrop (tBM K "list" rAppend (tVar 4) (tCons (tCB (zTuple K) (tCons (tVar 6) tNil)) tNil))) (tDrop (tBM K "list" rAppend (tVar 4) (tCons (tVar 6) tNil)))))))
  (tIfS (tTest (tOp (zEq K) (tOp zDiv (tCB zInt (tCons (tVar 1) tNil)) (tC (.int 4))) (tC (.int 1)))) (tDrop (tBM K "list" rAppend (tVar 2) (tCons (tCB (zTuple K) (tCons (tVar 4) tNil)) tNil))) (tDrop (tBM K "list" rAppend (tVar 2) (tCons (tVar 4) tNil)))))))
  (tRet (tVar 2))))
theorem ps__law_handed (T : Tx w K mg)  {f : Addr} {cdv : Value} {A : Around} {outer : List Env} {s : Shared} {H : Hp} {E : XK} (hr : Room 0 (A.deeper (envOfC "_law_handed" (defScope s__law_handed) s.heap.objs.size f cdv))) :
    PSs (cxOf (L2.CX P w) P w K mg base N__law_handed "_law_handed" (defScope s__law_handed) f cdv A outer s H E) (defBody s__law_handed) (t__law_handed w K (fun cls d _ H' => E cls d H')) := by
  have nd := sc__law_handed.nd
  have hu := hr.units
  have tk : Takes (cxOf (L2.CX P w) P w K mg base N__law_handed "_law_handed" (defScope s__law_handed) f cdv A outer s H E) (fun cls d _ H' => E cls d H') := takes_of rfl rfl rfl rfl
  exact (pss_cons (ps_set (i := 2) nd rfl (Or.inl rfl) (pe_lst pa_nil))
  (pss_cons (ps_for (passes_of rfl) rfl (pi_list (pv 0)) (pg_name (i := 3) nd rfl (Or.inl rfl)) (pss_cons (ps_set (i := 4) nd rfl (Or.inl rfl) (pe_lst pa_nil))
  (pss_cons (ps_for (passes_of rfl) rfl (pi_list (pv 3)) (pg_name (i := 5) nd rfl (Or.inl rfl)) (pss_cons (ps_set (i := 6) nd rfl (Or.inl rfl) (pe_lst pa_nil))
  (pss_cons (ps_for (passes_of rfl) rfl (pi_list (pv 5)) (pg_name (i := 7) nd rfl (Or.inl rfl)) (pss_one (ps_if (PW.pt (pw_and (pt_val (pe_callB call_zIsi (by rfl) T.f_isinstance bt_isinstance (pa_cons (pv 7) (pa_cons (pe_bltn (by rfl) T.f_tuple bt_tuple rfl) pa_nil)))) (pw_and1 (pt_cmpR (op_zEq hu) (pe_op op_zMod (pe_callTy call_zInt (by rfl) T.f_int bt_int (pa_cons (pv 1) pa_nil)) pe_int) pe_int (nomark _))))) (pss_one (ps_expr (pe_bm PySem.F.plainAttrs_list PySem.F.slot_list_append PySem.F.type_list_append mt_append (pv 6) (pa_cons (pe_callTy call_zList (by rfl) T.f_list bt_list (pa_cons (pv 7) pa_nil)) pa_nil)))) (pss_one (ps_expr (pe_bm PySem.F.plainAttrs_list PySem.F.slot_list_append PySem.F.type_list_append mt_append (pv 6) (pa_cons (pv 7) pa_nil)))))))
  (pss_one (ps_if (pt_cmpR (op_zEq hu) (pe_op op_zMod (pe_op op_zDiv (pe_callTy call_zInt (by rfl) T.f_int bt_int (pa_cons (pv 1) pa_nil)) pe_int) pe_int) pe_int (nomark _)) (pss_one (ps_expr (pe_bm PySem.F.plainAttrs_list PySem.F.slot_list_append PySem.F.type_list_append mt_append (pv 4) (pa_cons (pe_callTy call_zTuple (by rfl) T.f_tuple bt_tuple (pa_cons (pv 6) pa_nil)) pa_nil)))) (pss_one (ps_expr (pe_bm PySem.F.plainAttrs_list PySem.F.slot_list_append PySem.F.type_list_append mt_append (pv 4) (pa_cons (pv 6) pa_nil)))))))))
  (pss_one (ps_if (pt_cmpR (op_zEq hu) (pe_op op_zDiv (pe_callTy call_zInt (by rfl) T.f_int bt_int (pa_cons (pv 1) pa_nil)) pe_int) pe_int (nomark _)) (pss_one (ps_expr (pe_bm PySem.F.plainAttrs_list PySem.F.slot_list_append PySem.F.type_list_append mt_append (pv 2) (pa_cons (pe_callTy call_zTuple (by rfl) T.f_tuple bt_tuple (pa_cons (pv 4) pa_nil)) pa_nil)))) (pss_one (ps_expr (pe_bm PySem.F.plainAttrs_list PySem.F.slot_list_append PySem.F.type_list_append mt_append (pv 2) (pa_cons (pv 4) pa_nil)))))))))
  (pss_one (ps_ret (pv 2)))))
def t_are_letters (w : World) (K : PySem.W.Frag) (W : WX) : TS :=
  (tSeq (tAsg (tLc (iStr (tVar 0)) (gName 2) tYes (tBM K "str" rFindT (tC (.str (tx [97, 98, 99, 100, 101, 102, 103, 104, 105, 106, 107, 108, 109, 110, 111, 112, 113, 114, 115, 116, 117, 118, 119, 120, 121, 122]))) (tCons (tVar 2) tNil)) [2]) (gName 1))
  (tRet (tAndV (tChain zLe zLe (tC (.int 1)) (tCB (zLen K) (tCons (tVar 0) tNil)) (tC (.int 3))) (tAndV (tOp (zIn K true) (tUn (rU fun i => .int (-i)) (tC (.int 1))) (tVar 1)) (tOp (zEq K) (tVar 1) (tCB (rSortedSet w) (tCons (tCB (rSetL1 K w) (tCons (tVar 1) tNil)) tNil)))))))
theorem ps_are_letters (T : Tx w K mg)  {f : Addr} {cdv : Value} {A : Around} {outer : List Env} {s : Shared} {H : Hp} {E : XK} (hr : Room 0 (A.deeper (envOfC "are_letters" (defScope s_are_letters) s.heap.objs.size f cdv))) :
    PSs (cxOf (L2.CX P w) P w K mg base N_are_letters "are_letters" (defScope s_are_letters) f cdv A outer s H E) (defBody s_are_letters) (t_are_letters w K (fun cls d _ H' => E cls d H')) := by
  have nd := sc_are_letters.nd
  have hu := hr.units
  have tk : Takes (cxOf (L2.CX P w) P w K mg base N_are_letters "are_letters" (defScope s_are_letters) f cdv A outer s H E) (fun cls d _ H' => E cls d H') := takes_of rfl rfl rfl rfl
  exact (pss_cons (ps_setLc (i := 1) (own := [(PySem.Str.ofString "letter", 2)]) (by rfl) nd rfl rfl (sw_true rfl rfl rfl (by decide +kernel)) (pi_str (pv 0)) (blkOk_by (own := [(PySem.Str.ofString "letter", 2)]) (N := N_are_letters) (by show blkC N_are_letters (defScope s_are_letters) _ [(PySem.Str.ofString "letter", 2)] = true; decide +kernel)) (fun _ _ _ _ _ => (pg_name (i := 2) nd rfl (Or.inl rfl))) (fun _ _ _ _ _ => pts_nil) (fun _ _ _ _ _ => (pe_bm PySem.F.plainAttrs_str PySem.F.slot_str_find PySem.F.type_str_find mt_zFindT (pe_glob (by rfl) T.k_ALPHABET.choose_spec ⟨_, rfl⟩) (pa_cons (pv 2) pa_nil))))
  (pss_one (ps_ret (pe_and (pe_chain op_zLe op_zLe pe_int (pe_callB call_zLen (by rfl) T.f_len bt_len (pa_cons (pv 0) pa_nil)) pe_int) (pe_and (pe_cmpR (op_zNotIn hu) (pe_un un_neg pe_int) (pv 1) (by rfl)) (pe_one (pe_cmpR (op_zEq hu) (pv 1) (pe_callB (cr_sortedSet rfl) (by rfl) T.f_sorted bt_sorted (pa_cons (pe_callTy (cr_setL1 rfl) (by rfl) T.f_set bt_set (pa_cons (pv 1) pa_nil)) pa_nil)) (nomark _))))))))
def t_check_letters (w : World) (K : PySem.W.Frag) (W : WX) : TS :=
  (tIfS (tNot (tB (tCallS (spz K (F_are_letters K)) (WE W) (tCons (tVar 0) tNil)))) (tRaise (He.ga K (PySem.Str.ofString "BadLetters")) (spX1 (He.ga K (PySem.Str.ofString "BadLetters")) (PySem.Str.ofString "letters")) (tCons (tVar 0) tNil) W) tNext)
theorem ps_check_letters (T : Tx w K mg) (D_BadLetters : Dx P w K mg base "BadLetters" (He.ga K "BadLetters") ["self", "letters"] (spX1 (He.ga K "BadLetters") "letters")) (D_are_letters : Df P w K mg base "are_letters" ["letters"] 1 (spz K (F_are_letters K))) {f : Addr} {cdv : Value} {A : Around} {outer : List Env} {s : Shared} {H : Hp} {E : XK} (hr : Room 2 (A.deeper (envOfC "check_letters" (defScope s_check_letters) s.heap.objs.size f cdv))) :
    PSs (cxOf (L2.CX P w) P w K mg base N_check_letters "check_letters" (defScope s_check_letters) f cdv A outer s H E) (defBody s_check_letters) (t_check_letters w K (fun cls d _ H' => E cls d H')) := by
  have nd := sc_check_letters.nd
  have hu := hr.units
  have tk : Takes (cxOf (L2.CX P w) P w K mg base N_check_letters "check_letters" (defScope s_check_letters) f cdv A outer s H E) (fun cls d _ H' => E cls d H') := takes_of rfl rfl rfl rfl
  exact (pss_one (ps_if (pt_not (pt_val (pe_callZ D_are_letters (hr.mono (by omega)) tk (pa_cons (pv 0) pa_nil)))) (pss_one (ps_raiseZ D_BadLetters (by rfl) (hr.mono (by omega)) tk (pa_cons (pv 0) pa_nil))) pss_nil))
def t_frozen (n : Nat) (w : World) (K : PySem.W.Frag) (W : WX) : TS :=
  (tSeq (tIfS (tB (tCB (zIsi2 K) (tCons (tVar 0) (tCons (tTup (tCons (tC (.ty "list")) (tCons (tC (.ty "tuple")) tNil))) tNil)))) (tRet (tCB (zTuple K) (tCons (tLc (iSeq K (tVar 0)) (gName 1) tYes (tCall (spz K (F_frozen n K)) [] E0 (tCons (tVar 1) tNil)) [1]) tNil))) tNext)
  (tRet (tVar 0)))
theorem ps_frozen (n : Nat) (T : Tx w K mg) (D_frozen : Df P w K mg base "frozen" ["value"] (1 + n) (spz K (F_frozen n K))) {f : Addr} {cdv : Value} {A : Around} {outer : List Env} {s : Shared} {H : Hp} {E : XK} (hr : Room (1 + n) (A.deeper (envOfC "frozen" (defScope s_frozen) s.heap.objs.size f cdv))) :
    PSs (cxOf (L2.CX P w) P w K mg base N_frozen "frozen" (defScope s_frozen) f cdv A outer s H E) (defBody s_frozen) (t_frozen n w K (fun cls d _ H' => E cls d H')) := by
  have nd := sc_frozen.nd
  have hu := hr.units
  have tk : Takes (cxOf (L2.CX P w) P w K mg base N_frozen "frozen" (defScope s_frozen) f cdv A outer s H E) (fun cls d _ H' => E cls d H') := takes_of rfl rfl rfl rfl
  exact (pss_cons (ps_if (pt_val (pe_callB call_zIsi2 (by rfl) T.f_isinstance bt_isinstance (pa_cons (pv 0) (pa_cons (pe_tup (pa_cons (pe_bltn (by rfl) T.f_list bt_list rfl) (pa_cons (pe_bltn (by rfl) T.f_tuple bt_tuple rfl) pa_nil))) pa_nil)))) (pss_one (ps_ret (pe_callTy call_zTuple (by rfl) T.f_tuple bt_tuple (pa_cons (pe_lc (own := [(PySem.Str.ofString "part", 1)]) (by rfl) nd (pi_seq (pv 0)) (blkOk_by (own := [(PySem.Str.ofString "part", 1)]) (N := N_frozen) (by show blkC N_frozen (defScope s_frozen) _ [(PySem.Str.ofString "part", 1)] = true; decide +kernel)) (fun _ _ _ _ _ => (pg_name (i := 1) nd rfl (Or.inl rfl))) (fun _ _ _ _ _ => pts_nil) (fun _ _ _ _ _ => (pe_callN D_frozen (hr.mono (by omega)) (pa_cons (pv 1) pa_nil)))) pa_nil)))) pss_nil)
  (pss_one (ps_ret (pv 0))))
def t_is_whole (w : World) (K : PySem.W.Frag) (W : WX) : TS :=
  (tRet (tAndV (tCB (zIsi K) (tCons (tVar 0) (tCons (tC (.ty "int")) tNil))) (tNotV (tCB (zIsi K) (tCons (tVar 0) (tCons (tC (.ty "bool")) tNil))))))
theorem ps_is_whole (T : Tx w K mg)  {f : Addr} {cdv : Value} {A : Around} {outer : List Env} {s : Shared} {H : Hp} {E : XK} (hr : Room 0 (A.deeper (envOfC "is_whole" (defScope s_is_whole) s.heap.objs.size f cdv))) :
    PSs (cxOf (L2.CX P w) P w K mg base N_is_whole "is_whole" (defScope s_is_whole) f cdv A outer s H E) (defBody s_is_whole) (t_is_whole w K (fun cls d _ H' => E cls d H')) := by
  have nd := sc_is_whole.nd
  have hu := hr.units
  have tk : Takes (cxOf (L2.CX P w) P w K mg base N_is_whole "is_whole" (defScope s_is_whole) f cdv A outer s H E) (fun cls d _ H' => E cls d H') := takes_of rfl rfl rfl rfl
  exact (pss_one (ps_ret (pe_and (pe_callB call_zIsi (by rfl) T.f_isinstance bt_isinstance (pa_cons (pv 0) (pa_cons (pe_bltn (by rfl) T.f_int bt_int rfl) pa_nil))) (pe_one (pe_not (pe_callB call_zIsi (by rfl) T.f_isinstance bt_isinstance (pa_cons (pv 0) (pa_cons (pe_bltn (by rfl) T.f_bool bt_bool rfl) pa_nil))))))))
def t_is_two_option (w : World) (K : PySem.W.Frag) (W : WX) : TS :=
  (tSeq (tIfS (tOr (tTest (tOp zIsB (tVar 0) (tC (.bl true)))) (tTest (tOp zIsB (tVar 0) (tC (.bl false))))) (tRet (tC (.bl true))) tNext)
  (tSeq (tIfS (tOr (tNot (tB (tCB (zIsi K) (tCons (tVar 0) (tCons (tC (.ty "tuple")) tNil))))) (tOr (tTest (tOp (zNe K) (tCB (zLen K) (tCons (tVar 0) tNil)) (tC (.int 4)))) (tNot (tB (tCB (zAll K) (tCons (tLc (iTup K (tVar 0)) (gName 7) tYes (tCall (spz K (F_is_whole K)) [] E0 (tCons (tVar 7) tNil)) [7]) tNil)))))) (tRet (tC (.bl false))) tNext)
  (tSeq (tAsg (tVar 0) (gTup K 4 (gCons (gName 3) (gCons (gName 4) (gCons (gName 5) (gCons (gName 6) gNil))))))
  (tSeq (tIfS (tOr (tTest (tOp (zIn K true) (tVar 3) (tTup (tCons (tUn (rU fun i => .int (-i)) (tC (.int 1))) (tCons (tC (.int 0)) (tCons (tC (.int 1)) tNil)))))) (tTest (tOp (zIn K true) (tVar 5) (tTup (tCons (tUn (rU fun i => .int (-i)) (tC (.int 1))) (tCons (tC (.int 0)) (tCons (tC (.int 1)) tNil))))))) (tRet (tC (.bl false))) tNext)
  (tRet (tAndV (tChain zLe zLt (tC (.int 0)) (tVar 4) (tVar 1)) (tChain zLe zLt (tC (.int 0)) (tVar 6) (tVar 2))))))))
theorem ps_is_two_option (T : Tx w K mg) (D_is_whole : Df P w K mg base "is_whole" ["value"] 1 (spz K (F_is_whole K))) {f : Addr} {cdv : Value} {A : Around} {outer : List Env} {s : Shared} {H : Hp} {E : XK} (hr : Room 1 (A.deeper (envOfC "is_two_option" (defScope s_is_two_option) s.heap.objs.size f cdv))) :
    PSs (cxOf (L2.CX P w) P w K mg base N_is_two_option "is_two_option" (defScope s_is_two_option) f cdv A outer s H E) (defBody s_is_two_option) (t_is_two_option w K (fun cls d _ H' => E cls d H')) := by
  have nd := sc_is_two_option.nd
  have hu := hr.units
  have tk : Takes (cxOf (L2.CX P w) P w K mg base N_is_two_option "is_two_option" (defScope s_is_two_option) f cdv A outer s H E) (fun cls d _ H' => E cls d H') := takes_of rfl rfl rfl rfl
  exact (pss_cons (ps_if (PW.pt (pw_or (pt_cmpR op_zIsB (pv 0) pe_bl (nomark _)) (pw_or1 (pt_cmpR op_zIsB (pv 0) pe_bl (nomark _))))) (pss_one (ps_ret pe_bl)) pss_nil)
  (pss_cons (ps_if (PW.pt (pw_or (pt_not (pt_val (pe_callB call_zIsi (by rfl) T.f_isinstance bt_isinstance (pa_cons (pv 0) (pa_cons (pe_bltn (by rfl) T.f_tuple bt_tuple rfl) pa_nil))))) (pw_or (pt_cmpR (op_zNe hu) (pe_callB call_zLen (by rfl) T.f_len bt_len (pa_cons (pv 0) pa_nil)) pe_int (nomark _)) (pw_or1 (pt_not (pt_val (pe_callB (call_zAll rfl) (by rfl) T.f_all bt_all (pa_cons (pe_lc (own := [(PySem.Str.ofString "part", 7)]) (by rfl) nd (pi_tup (pv 0)) (blkOk_by (own := [(PySem.Str.ofString "part", 7)]) (N := N_is_two_option) (by show blkC N_is_two_option (defScope s_is_two_option) _ [(PySem.Str.ofString "part", 7)] = true; decide +kernel)) (fun _ _ _ _ _ => (pg_name (i := 7) nd rfl (Or.inl rfl))) (fun _ _ _ _ _ => pts_nil) (fun _ _ _ _ _ => (pe_callN D_is_whole (hr.mono (by omega)) (pa_cons (pv 7) pa_nil)))) pa_nil)))))))) (pss_one (ps_ret pe_bl)) pss_nil)
  (pss_cons (ps_asg (pv 0) (pg_tup (by rfl) (pgs_cons (pg_name (i := 3) nd rfl (Or.inl rfl)) (pgs_cons (pg_name (i := 4) nd rfl (Or.inl rfl)) (pgs_cons (pg_name (i := 5) nd rfl (Or.inl rfl)) (pgs_cons (pg_name (i := 6) nd rfl (Or.inl rfl)) pgs_nil))))))
  (pss_cons (ps_if (PW.pt (pw_or (pt_cmpR (op_zNotIn hu) (pv 3) (pe_tup (pa_cons (pe_un un_neg pe_int) (pa_cons pe_int (pa_cons pe_int pa_nil)))) (by rfl)) (pw_or1 (pt_cmpR (op_zNotIn hu) (pv 5) (pe_tup (pa_cons (pe_un un_neg pe_int) (pa_cons pe_int (pa_cons pe_int pa_nil)))) (by rfl))))) (pss_one (ps_ret pe_bl)) pss_nil)
  (pss_one (ps_ret (pe_and (pe_chain op_zLe op_zLt pe_int (pv 4) (pv 1)) (pe_one (pe_chain op_zLe op_zLt pe_int (pv 6) (pv 2))))))))))
def t_is_two_row (w : World) (K : PySem.W.Frag) (W : WX) : TS :=
  (tSeq (tIfS (tOr (tNot (tB (tCB (zIsi K) (tCons (tVar 0) (tCons (tC (.ty "tuple")) tNil))))) (tTest (tOp (zNe K) (tCB (zLen K) (tCons (tVar 0) tNil)) (tVar 1)))) (tRet (tC (.bl false))) tNext)
  (tSeq (tFor (iTup K (tVar 0)) (gName 4) (tSeq (tIfS (tOr (tNot (tB (tCB (zIsi K) (tCons (tVar 4) (tCons (tC (.ty "tuple")) tNil))))) (tTest (tOp (zNe K) (tCB (zLen K) (tCons (tVar 4) tNil)) (tVar 2)))) (tRet (tC (.bl false))) tNext)
  (tIfS (tNot (tB (tCB (zAll K) (tCons (tLc (iTup K (tVar 4)) (gName 5) tYes (tCall (spz K (F_is_two_option K)) [] E0 (tCons (tVar 5) (tCons (tVar 2) (tCons (tVar 3) tNil)))) [5]) tNil)))) (tRet (tC (.bl false))) tNext)))
  (tRet (tC (.bl true)))))
theorem ps_is_two_row (T : Tx w K mg) (D_is_two_option : Df P w K mg base "is_two_option" ["value", "second_symbols", "states"] 2 (spz K (F_is_two_option K))) {f : Addr} {cdv : Value} {A : Around} {outer : List Env} {s : Shared} {H : Hp} {E : XK} (hr : Room 2 (A.deeper (envOfC "is_two_row" (defScope s_is_two_row) s.heap.objs.size f cdv))) :
    PSs (cxOf (L2.CX P w) P w K mg base N_is_two_row "is_two_row" (defScope s_is_two_row) f cdv A outer s H E) (defBody s_is_two_row) (t_is_two_row w K (fun cls d _ H' => E cls d H')) := by
  have nd := sc_is_two_row.nd
  have hu := hr.units
  have tk : Takes (cxOf (L2.CX P w) P w K mg base N_is_two_row "is_two_row" (defScope s_is_two_row) f cdv A outer s H E) (fun cls d _ H' => E cls d H') := takes_of rfl rfl rfl rfl
  exact (pss_cons (ps_if (PW.pt (pw_or (pt_not (pt_val (pe_callB call_zIsi (by rfl) T.f_isinstance bt_isinstance (pa_cons (pv 0) (pa_cons (pe_bltn (by rfl) T.f_tuple bt_tuple rfl) pa_nil))))) (pw_or1 (pt_cmpR (op_zNe hu) (pe_callB call_zLen (by rfl) T.f_len bt_len (pa_cons (pv 0) pa_nil)) (pv 1) (nomark _))))) (pss_one (ps_ret pe_bl)) pss_nil)
  (pss_cons (ps_for (passes_of rfl) rfl (pi_tup (pv 0)) (pg_name (i := 4) nd rfl (Or.inl rfl)) (pss_cons (ps_if (PW.pt (pw_or (pt_not (pt_val (pe_callB call_zIsi (by rfl) T.f_isinstance bt_isinstance (pa_cons (pv 4) (pa_cons (pe_bltn (by rfl) T.f_tuple bt_tuple rfl) pa_nil))))) (pw_or1 (pt_cmpR (op_zNe hu) (pe_callB call_zLen (by rfl) T.f_len bt_len (pa_cons (pv 4) pa_nil)) (pv 2) (nomark _))))) (pss_one (ps_ret pe_bl)) pss_nil)
  (pss_one (ps_if (pt_not (pt_val (pe_callB (call_zAll rfl) (by rfl) T.f_all bt_all (pa_cons (pe_lc (own := [(PySem.Str.ofString "option", 5)]) (by rfl) nd (pi_tup (pv 4)) (blkOk_by (own := [(PySem.Str.ofString "option", 5)]) (N := N_is_two_row) (by show blkC N_is_two_row (defScope s_is_two_row) _ [(PySem.Str.ofString "option", 5)] = true; decide +kernel)) (fun _ _ _ _ _ => (pg_name (i := 5) nd rfl (Or.inl rfl))) (fun _ _ _ _ _ => pts_nil) (fun _ _ _ _ _ => (pe_callN D_is_two_option (hr.mono (by omega)) (pa_cons (pv 5) (pa_cons (pv 2) (pa_cons (pv 3) pa_nil)))))) pa_nil)))) (pss_one (ps_ret pe_bl)) pss_nil))))
  (pss_one (ps_ret pe_bl))))
def t_TwoTape (w : World) (K : PySem.W.Frag) (W : WX) : TS :=
  (tSeq (tDrop (tCallS (spz K (F_check_letters K)) (WE W) (tCons (tVar 1) tNil)))
  (tSeq (tAsg (tCallS (spz K (F_frozen 6 K)) (WE W) (tCons (tVar 3) tNil)) (gName 4))
  (tSeq (tIfS (tTest (tOp (zEq K) (tCB (zLen K) (tCons (tVar 4) tNil)) (tC (.int 0)))) (tRaise (He.ga K (PySem.Str.ofString "BadTable")) (spX1 (He.ga K (PySem.Str.ofString "BadTable")) (PySem.Str.ofString "state")) (tCons (tC (.int 0)) tNil) W) tNext)
  (tSeq (tFor (iEnumZ K (tCons (tVar 4) tNil)) (gTup K 2 (gCons (gName 5) (gCons (gName 6) gNil))) (tIfS (tNot (tB (tCallS (spz K (F_is_two_row K)) (WE W) (tCons (tVar 6) (tCons (tOp (zAdd K) (tC (.int 1)) (tCB (zLen K) (tCons (tVar 1) tNil))) (tCons (tVar 2) (tCons (tCB (zLen K) (tCons (tVar 4) tNil)) tNil))))))) (tRaise (He.ga K (PySem.Str.ofString "BadTable")) (spX1 (He.ga K (PySem.Str.ofString "BadTable")) (PySem.Str.ofString "state")) (tCons (tVar 5) tNil) W) tNext))
  (tSeq (sFld K (tVar 0) (tVar 1) (PySem.Str.ofString "letters"))
  (tSeq (sFld K (tVar 0) (tVar 2) (PySem.Str.ofString "second_symbols"))
  (sFld K (tVar 0) (tVar 4) (PySem.Str.ofString "table"))))))))
theorem ps_TwoTape (T : Tx w K mg) (D_BadTable : Dx P w K mg base "BadTable" (He.ga K "BadTable") ["self", "state"] (spX1 (He.ga K "BadTable") "state")) (D_check_letters : Df P w K mg base "check_letters" ["letters"] 3 (spz K (F_check_letters K))) (D_frozen : Df P w K mg base "frozen" ["value"] 7 (spz K (F_frozen 6 K))) (D_is_two_row : Df P w K mg base "is_two_row" ["row", "first_symbols", "second_symbols", "states"] 3 (spz K (F_is_two_row K))) {f : Addr} {cdv : Value} {A : Around} {outer : List Env} {s : Shared} {H : Hp} {E : XK} (hr : Room 7 (A.deeper (envOfC "TwoTape.__init__" (defScope s_TwoTape) s.heap.objs.size f cdv))) :
    PSs (cxOf (L2.CX P w) P w K mg base N_TwoTape "TwoTape.__init__" (defScope s_TwoTape) f cdv A outer s H E) (defBody s_TwoTape) (t_TwoTape w K (fun cls d _ H' => E cls d H')) := by
  have nd := sc_TwoTape.nd
  have hu := hr.units
  have tk : Takes (cxOf (L2.CX P w) P w K mg base N_TwoTape "TwoTape.__init__" (defScope s_TwoTape) f cdv A outer s H E) (fun cls d _ H' => E cls d H') := takes_of rfl rfl rfl rfl
  exact (pss_cons (ps_expr (pe_callZ D_check_letters (hr.mono (by omega)) tk (pa_cons (pv 1) pa_nil)))
  (pss_cons (ps_set (i := 4) nd rfl (Or.inl rfl) (pe_callZ D_frozen (hr.mono (by omega)) tk (pa_cons (pv 3) pa_nil)))
  (pss_cons (ps_if (pt_cmpR (op_zEq hu) (pe_callB call_zLen (by rfl) T.f_len bt_len (pa_cons (pv 4) pa_nil)) pe_int (nomark _)) (pss_one (ps_raiseZ D_BadTable (by rfl) (hr.mono (by omega)) tk (pa_cons pe_int pa_nil))) pss_nil)
  (pss_cons (ps_for (passes_of rfl) rfl (pi_enumZ (by rfl) T.f_enumerate (pa_cons (pv 4) pa_nil)) (pg_tup (by rfl) (pgs_cons (pg_name (i := 5) nd rfl (Or.inl rfl)) (pgs_cons (pg_name (i := 6) nd rfl (Or.inl rfl)) pgs_nil))) (pss_one (ps_if (pt_not (pt_val (pe_callZ D_is_two_row (hr.mono (by omega)) tk (pa_cons (pv 6) (pa_cons (pe_op op_zAdd pe_int (pe_callB call_zLen (by rfl) T.f_len bt_len (pa_cons (pv 1) pa_nil))) (pa_cons (pv 2) (pa_cons (pe_callB call_zLen (by rfl) T.f_len bt_len (pa_cons (pv 4) pa_nil)) pa_nil))))))) (pss_one (ps_raiseZ D_BadTable (by rfl) (hr.mono (by omega)) tk (pa_cons (pv 5) pa_nil))) pss_nil)))
  (pss_cons (ps_fld (pv 0) (pv 1) rfl)
  (pss_cons (ps_fld (pv 0) (pv 2) rfl)
  (pss_one (ps_fld (pv 0) (pv 4) rfl))))))))
def t__law_ruin (w : World) (K : PySem.W.Frag) (W : WX) : TS :=
  (tSeq (tFor (iList K (tVar 0)) (gName 1) (tSeq (tFor (iSeq K (tVar 1)) (gName 2) (tSeq (tFor (iSeq K (tVar 2)) (gName 3) (tIfS (tB (tCB (zIsi K) (tCons (tVar 3) (tCons (tC (.ty "list")) tNil)))) (tSeq (tDrop (tBM K "list" rAppend (tVar 3) (tCons (tC (.int 7)) tNil)))
  (tAsg (tC (.int 5)) (gSub (tVar 3) (tC (.int 0)) zSet))) tNext))
  (tIfS (tB (tCB (zIsi K) (tCons (tVar 2) (tCons (tC (.ty "list")) tNil)))) (tSeq (tDrop (tBM K "list" rAppend (tVar 2) (tCons (tC (.bl true)) tNil)))
  (tAsg (tC (.bl false)) (gSub (tVar 2) (tC (.int 0)) zSet))) tNext)))
  (tIfS (tB (tCB (zIsi K) (tCons (tVar 1) (tCons (tC (.ty "list")) tNil)))) (tSeq (tDrop (tBM K "list" rAppend (tVar 1) (tCons (tLst tNil) tNil)))
  (tAsg (tLst (tCons (tC (.bl true)) tNil)) (gSub (tVar 1) (tC (.int 0)) zSet))) tNext)))
  (tSeq (tDrop (tBM K "list" rAppend (tVar 0) (tCons (tLst tNil) tNil)))
  (tAsg (tLst tNil) (gSub (tVar 0) (tC (.int 0)) zSet))))
theorem ps__law_ruin (T : Tx w K mg)  {f : Addr} {cdv : Value} {A : Around} {outer : List Env} {s : Shared} {H : Hp} {E : XK} (hr : Room 0 (A.deeper (envOfC "_law_ruin" (defScope s__law_ruin) s.heap.objs.size f cdv))) :
    PSs (cxOf (L2.CX P w) P w K mg base N__law_ruin "_law_ruin" (defScope s__law_ruin) f cdv A outer s H E) (defBody s__law_ruin) (t__law_ruin w K (fun cls d _ H' => E cls d H')) := by
  have nd := sc__law_ruin.nd
  have hu := hr.units
  have tk : Takes (cxOf (L2.CX P w) P w K mg base N__law_ruin "_law_ruin" (defScope s__law_ruin) f cdv A outer s H E) (fun cls d _ H' => E cls d H') := takes_of rfl rfl rfl rfl
  exact (pss_cons (ps_for (passes_of rfl) rfl (pi_list (pv 0)) (pg_name (i := 1) nd rfl (Or.inl rfl)) (pss_cons (ps_for (passes_of rfl) rfl (pi_seq (pv 1)) (pg_name (i := 2) nd rfl (Or.inl rfl)) (pss_cons (ps_for (passes_of rfl) rfl (pi_seq (pv 2)) (pg_name (i := 3) nd rfl (Or.inl rfl)) (pss_one (ps_if (pt_val (pe_callB call_zIsi (by rfl) T.f_isinstance bt_isinstance (pa_cons (pv 3) (pa_cons (pe_bltn (by rfl) T.f_list bt_list rfl) pa_nil)))) (pss_cons (ps_expr (pe_bm PySem.F.plainAttrs_list PySem.F.slot_list_append PySem.F.type_list_append mt_append (pv 3) (pa_cons pe_int pa_nil)))
  (pss_one (ps_asg pe_int (pg_sub (pv 3) pe_int (set_z hu))))) pss_nil)))
  (pss_one (ps_if (pt_val (pe_callB call_zIsi (by rfl) T.f_isinstance bt_isinstance (pa_cons (pv 2) (pa_cons (pe_bltn (by rfl) T.f_list bt_list rfl) pa_nil)))) (pss_cons (ps_expr (pe_bm PySem.F.plainAttrs_list PySem.F.slot_list_append PySem.F.type_list_append mt_append (pv 2) (pa_cons pe_bl pa_nil)))
  (pss_one (ps_asg pe_bl (pg_sub (pv 2) pe_int (set_z hu))))) pss_nil))))
  (pss_one (ps_if (pt_val (pe_callB call_zIsi (by rfl) T.f_isinstance bt_isinstance (pa_cons (pv 1) (pa_cons (pe_bltn (by rfl) T.f_list bt_list rfl) pa_nil)))) (pss_cons (ps_expr (pe_bm PySem.F.plainAttrs_list PySem.F.slot_list_append PySem.F.type_list_append mt_append (pv 1) (pa_cons (pe_lst pa_nil) pa_nil)))
  (pss_one (ps_asg (pe_lst (pa_cons pe_bl pa_nil)) (pg_sub (pv 1) pe_int (set_z hu))))) pss_nil))))
  (pss_cons (ps_expr (pe_bm PySem.F.plainAttrs_list PySem.F.slot_list_append PySem.F.type_list_append mt_append (pv 0) (pa_cons (pe_lst pa_nil) pa_nil)))
  (pss_one (ps_asg (pe_lst pa_nil) (pg_sub (pv 0) pe_int (set_z hu))))))
def t__law_other_option (w : World) (K : PySem.W.Frag) (W : WX) : TS :=
  (tSeq (tAsg (tLst (tCons (tTup (tCons (tOp (zAdd K) (tC (.int 2)) (tVar 2)) (tCons (tOp (zIx K) (tVar 1) (tC (.int 1))) (tCons (tOp (zIx K) (tVar 1) (tC (.int 2))) (tCons (tOp (zIx K) (tVar 1) (tC (.int 3))) tNil))))) (tCons (tTup (tCons (tOp zSub (tUn (rU fun i => .int (-i)) (tC (.int 2))) (tVar 2)) (tCons (tOp (zIx K) (tVar 1) (tC (.int 1))) (tCons (tOp (zIx K) (tVar 1) (tC (.int 2))) (tCons (tOp (zIx K) (tVar 1) (tC (.int 3))) tNil))))) (tCons (tTup (tCons (tOp (zIx K) (tVar 1) (tC (.int 0))) (tCons (tOp (zAdd K) (tVar 3) (tVar 2)) (tCons (tOp (zIx K) (tVar 1) (tC (.int 2))) (tCons (tOp (zIx K) (tVar 1) (tC (.int 3))) tNil))))) (tCons (tTup (tCons (tOp (zIx K) (tVar 1) (tC (.int 0))) (tCons (tOp zSub (tUn (rU fun i => .int (-i)) (tC (.int 1))) (tVar 2)) (tCons (tOp (zIx K) (tVar 1) (tC (.int 2))) (tCons (tOp (zIx K) (tVar 1) (tC (.int 3))) tNil))))) (tCons (tTup (tCons (tOp (zIx K) (tVar 1) (tC (.int 0))) (tCons (tOp (zIx K) (tVar 1) (tC (.int 1))) (tCons (tOp (zAdd K) (tC (.int 2)) (tVar 2)) (tCons (tOp (zIx K) (tVar 1) (tC (.int 3))) tNil))))) (tCons (tTup (tCons (tOp (zIx K) (tVar 1) (tC (.int 0))) (tCons (tOp (zIx K) (tVar 1) (tC (.int 1))) (tCons (tOp zSub (tUn (rU fun i => .int (-i)) (tC (.int 2))) (tVar 2)) (tCons (tOp (zIx K) (tVar 1) (tC (.int 3))) tNil))))) (tCons (tTup (tCons (tOp (zIx K) (tVar 1) (tC (.int 0))) (tCons (tOp (zIx K) (tVar 1) (tC (.int 1))) (tCons (tOp (zIx K) (tVar 1) (tC (.int 2))) (tCons (tOp (zAdd K) (tVar 4) (tVar 2)) tNil))))) (tCons (tTup (tCons (tOp (zIx K) (tVar 1) (tC (.int 0))) (tCons (tOp (zIx K) (tVar 1) (tC (.int 1))) (tCons (tOp (zIx K) (tVar 1) (tC (.int 2))) (tCons (tOp zSub (tUn (rU fun i => .int (-i)) (tC (.int 1))) (tVar 2)) tNil))))) (tCons (tTup (tCons (tC (.bl true)) (tCons (tOp (zIx K) (tVar 1) (tC (.int 1))) (tCons (tOp (zIx K) (tVar 1) (tC (.int 2))) (tCons (tOp (zIx K) (tVar 1) (tC (.int 3))) tNil))))) (tCons (tTup (tCons (tOp (zIx K) (tVar 1) (tC (.int 0))) (tCons (tC (.bl false)) (tCons (tOp (zIx K) (tVar 1) (tC (.int 2))) (tCons (tOp (zIx K) (tVar 1) (tC (.int 3))) tNil))))) (tCons (tTup (tCons (tOp (zIx K) (tVar 1) (tC (.int 0))) (tCons (tOp (zIx K) (tVar 1) (tC (.int 1))) (tCons (tC (.bl true)) (tCons (tOp (zIx K) (tVar 1) (tC (.int 3))) tNil))))) (tCons (tTup (tCons (tOp (zIx K) (tVar 1) (tC (.int 0))) (tCons (tOp (zIx K) (tVar 1) (tC (.int 1))) (tCons (tOp (zIx K) (tVar 1) (tC (.int 2))) (tCons (tC (.bl false)) tNil))))) (tCons (tTup (tCons (tOp (zIx K) (tVar 1) (tC (.int 0))) (tCons (tOp (zIx K) (tVar 1) (tC (.int 1))) (tCons (tOp (zIx K) (tVar 1) (tC (.int 2))) tNil)))) (tCons (tTup (tCons (tOp (zIx K) (tVar 1) (tC (.int 1))) (tCons (tC (.int 1)) (tCons (tOp (zIx K) (tVar 1) (tC (.int 3))) tNil)))) (tCons (tTup tNil) (tCons (tC .non) (tCons (tC (.int 1)) (tCons (tC (.int 0)) (tCons (tVar 2) (tCons (tC (.str (tx [121, 101, 115]))) (tCons (tC (.str (tx []))) (tCons (tTup (tCons (tC .non) (tCons (tOp (zIx K) (tVar 1) (tC (.int 1))) (tCons (tOp (zIx K) (tVar 1) (tC (.int 2))) (tCons (tOp (zIx K) (tVar 1) (tC (.int 3))) tNil))))) (tCons (tTup (tCons (tOp (zIx K) (tVar 1) (tC (.int 0))) (tCons (tC (.str (tx [48]))) (tCons (tOp (zIx K) (tVar 1) (tC (.int 2))) (tCons (tOp (zIx K) (tVar 1) (tC (.int 3))) tNil))))) (tCons (tC (.bl true)) (tCons (tC (.bl false)) (tCons (tTup (tCons (tC (.int 0)) (tCons (tOp zSub (tVar 3) (tC (.int 1))) (tCons (tC (.int 0)) (tCons (tOp zSub (tVar 4) (tC (.int 1))) tNil))))) (tCons (tTup (tCons (tUn (rU fun i => .int (-i)) (tC (.int 1))) (tCons (tC (.int 0)) (tCons (tC (.int 1)) (tCons (tC (.int 0)) tNil))))) (tCons (tTup (tCons (tC (.int 1)) (tCons (tOp zSub (tVar 3) (tC (.int 1))) (tCons (tUn (rU fun i => .int (-i)) (tC (.int 1))) (tCons (tC (.int 0)) tNil))))) tNil))))))))))))))))))))))))))))) (gName 5))
  (tRet (tOp (zIx K) (tVar 5) (tVar 0))))
theorem ps__law_other_option (T : Tx w K mg)  {f : Addr} {cdv : Value} {A : Around} {outer : List Env} {s : Shared} {H : Hp} {E : XK} (hr : Room 0 (A.deeper (envOfC "_law_other_option" (defScope s__law_other_option) s.heap.objs.size f cdv))) :
    PSs (cxOf (L2.CX P w) P w K mg base N__law_other_option "_law_other_option" (defScope s__law_other_option) f cdv A outer s H E) (defBody s__law_other_option) (t__law_other_option w K (fun cls d _ H' => E cls d H')) := by
  have nd := sc__law_other_option.nd
  have hu := hr.units
  have tk : Takes (cxOf (L2.CX P w) P w K mg base N__law_other_option "_law_other_option" (defScope s__law_other_option) f cdv A outer s H E) (fun cls d _ H' => E cls d H') := takes_of rfl rfl rfl rfl
  exact (pss_cons (ps_set (i := 5) nd rfl (Or.inl rfl) (pe_lst (pa_cons (pe_tup (pa_cons (pe_op op_zAdd pe_int (pv 2)) (pa_cons (pe_ix (ix_z hu) (pv 1) pe_int (fun _ _ => rfl)) (pa_cons (pe_ix (ix_z hu) (pv 1) pe_int (fun _ _ => rfl)) (pa_cons (pe_ix (ix_z hu) (pv 1) pe_int (fun _ _ => rfl)) pa_nil))))) (pa_cons (pe_tup (pa_cons (pe_op op_zSub (pe_un un_neg pe_int) (pv 2)) (pa_cons (pe_ix (ix_z hu) (pv 1) pe_int (fun _ _ => rfl)) (pa_cons (pe_ix (ix_z hu) (pv 1) pe_int (fun _ _ => rfl)) (pa_cons (pe_ix (ix_z hu) (pv 1) pe_int (fun _ _ => rfl)) pa_nil))))) (pa_cons (pe_tup (pa_cons (pe_ix (ix_z hu) (pv 1) pe_int (fun _ _ => rfl)) (pa_cons (pe_op op_zAdd (pv 3) (pv 2)) (pa_cons (pe_ix (ix_z hu) (pv 1) pe_int (fun _ _ => rfl)) (pa_cons (pe_ix (ix_z hu) (pv 1) pe_int (fun _ _ => rfl)) pa_nil))))) (pa_cons (pe_tup (pa_cons (pe_ix (ix_z hu) (pv 1) pe_int (fun _ _ => rfl)) (pa_cons (pe_op op_zSub (pe_un un_neg pe_int) (pv 2)) (pa_cons (pe_ix (ix_z hu) (pv 1) pe_int (fun _ _ => rfl)) (pa_cons (pe_ix (ix_z hu) (pv 1) pe_int (fun _ _ => rfl)) pa_nil))))) (pa_cons (pe_tup (pa_cons (pe_ix (ix_z hu) (pv 1) pe_int (fun _ _ => rfl)) (pa_cons (pe_ix (ix_z hu) (pv 1) pe_int (fun _ _ => rfl)) (pa_cons (pe_op op_zAdd pe_int (pv 2)) (pa_cons (pe_ix (ix_z hu) (pv 1) pe_int (fun _ _ => rfl)) pa_nil))))) (pa_cons (pe_tup (pa_cons (pe_ix (ix_z hu) (pv 1) pe_int (fun _ _ => rfl)) (pa_cons (pe_ix (ix_z hu) (pv 1) pe_int (fun _ _ => rfl)) (pa_cons (pe_op op_zSub (pe_un un_neg pe_int) (pv 2)) (pa_cons (pe_ix (ix_z hu) (pv 1) pe_int (fun _ _ => rfl)) pa_nil))))) (pa_cons (pe_tup (pa_cons (pe_ix (ix_z hu) (pv 1) pe_int (fun _ _ => rfl)) (pa_cons (pe_ix (ix_z hu) (pv 1) pe_int (fun _ _ => rfl)) (pa_cons (pe_ix (ix_z hu) (pv 1) pe_int (fun _ _ => rfl)) (pa_cons (pe_op op_zAdd (pv 4) (pv 2)) pa_nil))))) (pa_cons (pe_tup (pa_cons (pe_ix (ix_z hu) (pv 1) pe_int (fun _ _ => rfl)) (pa_cons (pe_ix (ix_z hu) (pv 1) pe_int (fun _ _ => rfl)) (pa_cons (pe_ix (ix_z hu) (pv 1) pe_int (fun _ _ => rfl)) (pa_cons (pe_op op_zSub (pe_un un_neg pe_int) (pv 2)) pa_nil))))) (pa_cons (pe_tup (pa_cons pe_bl (pa_cons (pe_ix (ix_z hu) (pv 1) pe_int (fun _ _ => rfl)) (pa_cons (pe_ix (ix_z hu) (pv 1) pe_int (fun _ _ => rfl)) (pa_cons (pe_ix (ix_z hu) (pv 1) pe_int (fun _ _ => rfl)) pa_nil))))) (pa_cons (pe_tup (pa_cons (pe_ix (ix_z hu) (pv 1) pe_int (fun _ _ => rfl)) (pa_cons pe_bl (pa_cons (pe_ix (ix_z hu) (pv 1) pe_int (fun _ _ => rfl)) (pa_cons (pe_ix (ix_z hu) (pv 1) pe_int (fun _ _ => rfl)) pa_nil))))) (pa_cons (pe_tup (pa_cons (pe_ix (ix_z hu) (pv 1) pe_int (fun _ _ => rfl)) (pa_cons (pe_ix (ix_z hu) (pv 1) pe_int (fun _ _ => rfl)) (pa_cons pe_bl (pa_cons (pe_ix (ix_z hu) (pv 1) pe_int (fun _ _ => rfl)) pa_nil))))) (pa_cons (pe_tup (pa_cons (pe_ix (ix_z hu) (pv 1) pe_int (fun _ _ => rfl)) (pa_cons (pe_ix (ix_z hu) (pv 1) pe_int (fun _ _ => rfl)) (pa_cons (pe_ix (ix_z hu) (pv 1) pe_int (fun _ _ => rfl)) (pa_cons pe_bl pa_nil))))) (pa_cons (pe_tup (pa_cons (pe_ix (ix_z hu) (pv 1) pe_int (fun _ _ => rfl)) (pa_cons (pe_ix (ix_z hu) (pv 1) pe_int (fun _ _ => rfl)) (pa_cons (pe_ix (ix_z hu) (pv 1) pe_int (fun _ _ => rfl)) pa_nil)))) (pa_cons (pe_tup (pa_cons (pe_ix (ix_z hu) (pv 1) pe_int (fun _ _ => rfl)) (pa_cons pe_int (pa_cons (pe_ix (ix_z hu) (pv 1) pe_int (fun _ _ => rfl)) pa_nil)))) (pa_cons (pe_tup pa_nil) (pa_cons pe_non (pa_cons pe_int (pa_cons pe_int (pa_cons (pv 2) (pa_cons pe_str (pa_cons pe_str (pa_cons (pe_tup (pa_cons pe_non (pa_cons (pe_ix (ix_z hu) (pv 1) pe_int (fun _ _ => rfl)) (pa_cons (pe_ix (ix_z hu) (pv 1) pe_int (fun _ _ => rfl)) (pa_cons (pe_ix (ix_z hu) (pv 1) pe_int (fun _ _ => rfl)) pa_nil))))) (pa_cons (pe_tup (pa_cons (pe_ix (ix_z hu) (pv 1) pe_int (fun _ _ => rfl)) (pa_cons pe_str (pa_cons (pe_ix (ix_z hu) (pv 1) pe_int (fun _ _ => rfl)) (pa_cons (pe_ix (ix_z hu) (pv 1) pe_int (fun _ _ => rfl)) pa_nil))))) (pa_cons pe_bl (pa_cons pe_bl (pa_cons (pe_tup (pa_cons pe_int (pa_cons (pe_op op_zSub (pv 3) pe_int) (pa_cons pe_int (pa_cons (pe_op op_zSub (pv 4) pe_int) pa_nil))))) (pa_cons (pe_tup (pa_cons (pe_un un_neg pe_int) (pa_cons pe_int (pa_cons pe_int (pa_cons pe_int pa_nil))))) (pa_cons (pe_tup (pa_cons pe_int (pa_cons (pe_op op_zSub (pv 3) pe_int) (pa_cons (pe_un un_neg pe_int) (pa_cons pe_int pa_nil))))) pa_nil))))))))))))))))))))))))))))))
  (pss_one (ps_ret (pe_ix (ix_z hu) (pv 5) (pv 0) (fun _ _ => rfl)))))
def t__law_spoilt (w : World) (K : PySem.W.Frag) (W : WX) : TS :=
  (tSeq (tAsg (tLst tNil) (gName 3))
  (tSeq (tFor (iList K (tVar 0)) (gName 4) (tDrop (tBM K "list" rAppend (tVar 3) (tCons (tLc (iList K (tVar 4)) (gName 5) tYes (tCB (zList K) (tCons (tVar 5) tNil)) [5]) tNil))))
  (tSeq (tAsg (tOp (zIx K) (tVar 1) (tC (.int 0))) (gName 6))
  (tSeq (tIfS (tTest (tOp (zEq K) (tCB (zLen K) (tCons (tVar 3) tNil)) (tC (.int 0)))) (tRet (tVar 3)) tNext)
  (tSeq (tIfS (tTest (tOp (zEq K) (tVar 6) (tC (.int 32)))) (tRet (tSl (zSl K) (tVar 3) tNoPart (tPart (tOp zSub (tCB (zLen K) (tCons (tVar 3) tNil)) (tC (.int 1)))))) tNext)
  (tSeq (tIfS (tTest (tOp (zEq K) (tVar 6) (tC (.int 33)))) (tSeq (tDrop (tBM K "list" rAppend (tVar 3) (tCons (tLc (iList K (tOp (zIx K) (tVar 3) (tC (.int 0)))) (gName 5) tYes (tCB (zList K) (tCons (tVar 5) tNil)) [5]) tNil)))
  (tRet (tVar 3))) tNext)
  (tSeq (tAsg (tOp (zIx K) (tVar 3) (tOp zMod (tCB zInt (tCons (tOp (zIx K) (tVar 1) (tC (.int 1))) tNil)) (tCB (zLen K) (tCons (tVar 3) tNil)))) (gName 4))
  (tSeq (tIfS (tTest (tOp (zEq K) (tCB (zLen K) (tCons (tVar 4) tNil)) (tC (.int 0)))) (tRet (tVar 3)) tNext)
  (tSeq (tAsg (tOp zMod (tCB zInt (tCons (tOp (zIx K) (tVar 1) (tC (.int 2))) tNil)) (tCB (zLen K) (tCons (tVar 4) tNil))) (gName 7))
  (tSeq (tAsg (tOp (zIx K) (tVar 4) (tVar 7)) (gName 5))
  (tSeq (tIfS (tTest (tOp (zEq K) (tVar 6) (tC (.int 30)))) (tSeq (tDrop (tBM K "list" rPopAt (tVar 4) (tCons (tVar 7) tNil)))
  (tRet (tVar 3))) tNext)
  (tSeq (tIfS (tTest (tOp (zEq K) (tVar 6) (tC (.int 31)))) (tSeq (tDrop (tBM K "list" rAppend (tVar 4) (tCons (tCB (zList K) (tCons (tVar 5) tNil)) tNil)))
  (tRet (tVar 3))) tNext)
  (tSeq (tIfS (tTest (tOp (zEq K) (tCB (zLen K) (tCons (tVar 5) tNil)) (tC (.int 0)))) (tRet (tVar 3)) tNext)
  (tSeq (tAsg (tOp zMod (tCB zInt (tCons (tOp (zIx K) (tVar 1) (tC (.int 3))) tNil)) (tCB (zLen K) (tCons (tVar 5) tNil))) (gName 8))
  (tSeq (tIfS (tTest (tOp (zEq K) (tVar 6) (tC (.int 28)))) (tSeq (tDrop (tBM K "list" rPopAt (tVar 5) (tCons (tVar 8) tNil)))
  (tRet (tVar 3))) tNext)
  (tSeq (tIfS (tTest (tOp (zEq K) (tVar 6) (tC (.int 29)))) (tSeq (tDrop (tBM K "list" rAppend (tVar 5) (tCons (tOp (zIx K) (tVar 5) (tVar 8)) tNil)))
  (tRet (tVar 3))) tNext)
  (tSeq (tAsg (tOp (zIx K) (tVar 5) (tVar 8)) (gName 9))
  (tSeq (tIfS (tOr (tNot (tB (tCB (zIsi K) (tCons (tVar 9) (tCons (tC (.ty "tuple")) tNil))))) (tTest (tOp (zNe K) (tCB (zLen K) (tCons (tVar 9) tNil)) (tC (.int 4))))) (tAsg (tTup (tCons (tC (.int 1)) (tCons (tC (.int 0)) (tCons (tC (.int 0)) (tCons (tC (.int 0)) tNil))))) (gName 9)) tNext)
  (tSeq (tAsg (tOp (zIx K) (tLst (tCons (tC (.int 0)) (tCons (tC (.int 1)) (tCons (tC (.int 5)) (tCons (tC (.int 1000)) (tCons (tOp zPow (tC (.int 10)) (tC (.int 12))) (tCons (tOp zPow (tC (.int 10)) (tC (.int 30))) tNil))))))) (tOp (zIx K) (tVar 1) (tC (.int 4)))) (gName 10))
  (tSeq (tAsg (tCallS (spz K (F__law_other_option K)) (WE W) (tCons (tVar 6) (tCons (tVar 9) (tCons (tVar 10) (tCons (tVar 2) (tCons (tCB (zLen K) (tCons (tVar 3) tNil)) tNil)))))) (gSub (tVar 5) (tVar 8) zSet))
  (tRet (tVar 3))))))))))))))))))))))
theorem ps__law_spoilt (T : Tx w K mg) (D__law_other_option : Df P w K mg base "_law_other_option" ["kind", "step", "far", "second", "states"] 1 (spz K (F__law_other_option K))) {f : Addr} {cdv : Value} {A : Around} {outer : List Env} {s : Shared} {H : Hp} {E : XK} (hr : Room 1 (A.deeper (envOfC "_law_spoilt" (defScope s__law_spoilt) s.heap.objs.size f cdv))) :
    PSs (cxOf (L2.CX P w) P w K mg base N__law_spoilt "_law_spoilt" (defScope s__law_spoilt) f cdv A outer s H E) (defBody s__law_spoilt) (t__law_spoilt w K (fun cls d _ H' => E cls d H')) := by
  have nd := sc__law_spoilt.nd
  have hu := hr.units
  have tk : Takes (cxOf (L2.CX P w) P w K mg base N__law_spoilt "_law_spoilt" (defScope s__law_spoilt) f cdv A outer s H E) (fun cls d _ H' => E cls d H') := takes_of rfl rfl rfl rfl
  exact (pss_cons (ps_set (i := 3) nd rfl (Or.inl rfl) (pe_lst pa_nil))
  (pss_cons (ps_for (passes_of rfl) rfl (pi_list (pv 0)) (pg_name (i := 4) nd rfl (Or.inl rfl)) (pss_one (ps_expr (pe_bm PySem.F.plainAttrs_list PySem.F.slot_list_append PySem.F.type_list_append mt_append (pv 3) (pa_cons (pe_lc (own := [(PySem.Str.ofString "options", 5)]) (by rfl) nd (pi_list (pv 4)) (blkOk_by (own := [(PySem.Str.ofString "options", 5)]) (N := N__law_spoilt) (by show blkC N__law_spoilt (defScope s__law_spoilt) _ [(PySem.Str.ofString "options", 5)] = true; decide +kernel)) (fun _ _ _ _ _ => (pg_name (i := 5) nd rfl (Or.inl rfl))) (fun _ _ _ _ _ => pts_nil) (fun _ _ _ _ _ => (pe_callTy call_zList (by rfl) T.f_list bt_list (pa_cons (pv 5) pa_nil)))) pa_nil)))))
  (pss_cons (ps_set (i := 6) nd rfl (Or.inl rfl) (pe_ix (ix_z hu) (pv 1) pe_int (fun _ _ => rfl)))
  (pss_cons (ps_if (pt_cmpR (op_zEq hu) (pe_callB call_zLen (by rfl) T.f_len bt_len (pa_cons (pv 3) pa_nil)) pe_int (nomark _)) (pss_one (ps_ret (pv 3))) pss_nil)
  (pss_cons (ps_if (pt_cmpR (op_zEq hu) (pv 6) pe_int (nomark _)) (pss_one (ps_ret (pe_slice sl_z (pv 3) po_none (po_some (pe_op op_zSub (pe_callB call_zLen (by rfl) T.f_len bt_len (pa_cons (pv 3) pa_nil)) pe_int))))) pss_nil)
  (pss_cons (ps_if (pt_cmpR (op_zEq hu) (pv 6) pe_int (nomark _)) (pss_cons (ps_expr (pe_bm PySem.F.plainAttrs_list PySem.F.slot_list_append PySem.F.type_list_append mt_append (pv 3) (pa_cons (pe_lc (own := [(PySem.Str.ofString "options", 5)]) (by rfl) nd (pi_list (pe_ix (ix_z hu) (pv 3) pe_int (fun _ _ => rfl))) (blkOk_by (own := [(PySem.Str.ofString "options", 5)]) (N := N__law_spoilt) (by show blkC N__law_spoilt (defScope s__law_spoilt) _ [(PySem.Str.ofString "options", 5)] = true; decide +kernel)) (fun _ _ _ _ _ => (pg_name (i := 5) nd rfl (Or.inl rfl))) (fun _ _ _ _ _ => pts_nil) (fun _ _ _ _ _ => (pe_callTy call_zList (by rfl) T.f_list bt_list (pa_cons (pv 5) pa_nil)))) pa_nil)))
  (pss_one (ps_ret (pv 3)))) pss_nil)
  (pss_cons (ps_set (i := 4) nd rfl (Or.inl rfl) (pe_ix (ix_z hu) (pv 3) (pe_op op_zMod (pe_callTy call_zInt (by rfl) T.f_int bt_int (pa_cons (pe_ix (ix_z hu) (pv 1) pe_int (fun _ _ => rfl)) pa_nil)) (pe_callB call_zLen (by rfl) T.f_len bt_len (pa_cons (pv 3) pa_nil))) (fun _ _ => rfl)))
  (pss_cons (ps_if (pt_cmpR (op_zEq hu) (pe_callB call_zLen (by rfl) T.f_len bt_len (pa_cons (pv 4) pa_nil)) pe_int (nomark _)) (pss_one (ps_ret (pv 3))) pss_nil)
  (pss_cons (ps_set (i := 7) nd rfl (Or.inl rfl) (pe_op op_zMod (pe_callTy call_zInt (by rfl) T.f_int bt_int (pa_cons (pe_ix (ix_z hu) (pv 1) pe_int (fun _ _ => rfl)) pa_nil)) (pe_callB call_zLen (by rfl) T.f_len bt_len (pa_cons (pv 4) pa_nil))))
  (pss_cons (ps_set (i := 5) nd rfl (Or.inl rfl) (pe_ix (ix_z hu) (pv 4) (pv 7) (fun _ _ => rfl)))
  (pss_cons (ps_if (pt_cmpR (op_zEq hu) (pv 6) pe_int (nomark _)) (pss_cons (ps_expr (pe_bm PySem.F.plainAttrs_list PySem.F.slot_list_pop PySem.F.type_list_pop mt_popAt (pv 4) (pa_cons (pv 7) pa_nil)))
  (pss_one (ps_ret (pv 3)))) pss_nil)
  (pss_cons (ps_if (pt_cmpR (op_zEq hu) (pv 6) pe_int (nomark _)) (pss_cons (ps_expr (pe_bm PySem.F.plainAttrs_list PySem.F.slot_list_append PySem.F.type_list_append mt_append (pv 4) (pa_cons (pe_callTy call_zList (by rfl) T.f_list bt_list (pa_cons (pv 5) pa_nil)) pa_nil)))
  (pss_one (ps_ret (pv 3)))) pss_nil)
  (pss_cons (ps_if (pt_cmpR (op_zEq hu) (pe_callB call_zLen (by rfl) T.f_len bt_len (pa_cons (pv 5) pa_nil)) pe_int (nomark _)) (pss_one (ps_ret (pv 3))) pss_nil)
  (pss_cons (ps_set (i := 8) nd rfl (Or.inl rfl) (pe_op op_zMod (pe_callTy call_zInt (by rfl) T.f_int bt_int (pa_cons (pe_ix (ix_z hu) (pv 1) pe_int (fun _ _ => rfl)) pa_nil)) (pe_callB call_zLen (by rfl) T.f_len bt_len (pa_cons (pv 5) pa_nil))))
  (pss_cons (ps_if (pt_cmpR (op_zEq hu) (pv 6) pe_int (nomark _)) (pss_cons (ps_expr (pe_bm PySem.F.plainAttrs_list PySem.F.slot_list_pop PySem.F.type_list_pop mt_popAt (pv 5) (pa_cons (pv 8) pa_nil)))
  (pss_one (ps_ret (pv 3)))) pss_nil)
  (pss_cons (ps_if (pt_cmpR (op_zEq hu) (pv 6) pe_int (nomark _)) (pss_cons (ps_expr (pe_bm PySem.F.plainAttrs_list PySem.F.slot_list_append PySem.F.type_list_append mt_append (pv 5) (pa_cons (pe_ix (ix_z hu) (pv 5) (pv 8) (fun _ _ => rfl)) pa_nil)))
  (pss_one (ps_ret (pv 3)))) pss_nil)
  (pss_cons (ps_set (i := 9) nd rfl (Or.inl rfl) (pe_ix (ix_z hu) (pv 5) (pv 8) (fun _ _ => rfl)))
  (pss_cons (ps_if (PW.pt (pw_or (pt_not (pt_val (pe_callB call_zIsi (by rfl) T.f_isinstance bt_isinstance (pa_cons (pv 9) (pa_cons (pe_bltn (by rfl) T.f_tuple bt_tuple rfl) pa_nil))))) (pw_or1 (pt_cmpR (op_zNe hu) (pe_callB call_zLen (by rfl) T.f_len bt_len (pa_cons (pv 9) pa_nil)) pe_int (nomark _))))) (pss_one (ps_set (i := 9) nd rfl (Or.inl rfl) (pe_tup (pa_cons pe_int (pa_cons pe_int (pa_cons pe_int (pa_cons pe_int pa_nil))))))) pss_nil)
  (pss_cons (ps_set (i := 10) nd rfl (Or.inl rfl) (pe_ix (ix_z hu) (pe_lst (pa_cons pe_int (pa_cons pe_int (pa_cons pe_int (pa_cons pe_int (pa_cons (pe_op op_zPow pe_int pe_int) (pa_cons (pe_op op_zPow pe_int pe_int) pa_nil))))))) (pe_ix (ix_z hu) (pv 1) pe_int (fun _ _ => rfl)) (fun _ _ => rfl)))
  (pss_cons (ps_asg (pe_callZ D__law_other_option (hr.mono (by omega)) tk (pa_cons (pv 6) (pa_cons (pv 9) (pa_cons (pv 10) (pa_cons (pv 2) (pa_cons (pe_callB call_zLen (by rfl) T.f_len bt_len (pa_cons (pv 3) pa_nil)) pa_nil)))))) (pg_sub (pv 5) (pv 8) (set_z hu)))
  (pss_one (ps_ret (pv 3)))))))))))))))))))))))
def t__law_whole (w : World) (K : PySem.W.Frag) (W : WX) : TS :=
  (tRet (tAndV (tCB (zIsi K) (tCons (tVar 0) (tCons (tC (.ty "int")) tNil))) (tNotV (tCB (zIsi K) (tCons (tVar 0) (tCons (tC (.ty "bool")) tNil))))))
theorem ps__law_whole (T : Tx w K mg)  {f : Addr} {cdv : Value} {A : Around} {outer : List Env} {s : Shared} {H : Hp} {E : XK} (hr : Room 0 (A.deeper (envOfC "_law_whole" (defScope s__law_whole) s.heap.objs.size f cdv))) :
    PSs (cxOf (L2.CX P w) P w K mg base N__law_whole "_law_whole" (defScope s__law_whole) f cdv A outer s H E) (defBody s__law_whole) (t__law_whole w K (fun cls d _ H' => E cls d H')) := by
  have nd := sc__law_whole.nd
  have hu := hr.units
  have tk : Takes (cxOf (L2.CX P w) P w K mg base N__law_whole "_law_whole" (defScope s__law_whole) f cdv A outer s H E) (fun cls d _ H' => E cls d H') := takes_of rfl rfl rfl rfl
  exact (pss_one (ps_ret (pe_and (pe_callB call_zIsi (by rfl) T.f_isinstance bt_isinstance (pa_cons (pv 0) (pa_cons (pe_bltn (by rfl) T.f_int bt_int rfl) pa_nil))) (pe_one (pe_not (pe_callB call_zIsi (by rfl) T.f_isinstance bt_isinstance (pa_cons (pv 0) (pa_cons (pe_bltn (by rfl) T.f_bool bt_bool rfl) pa_nil))))))))
def t__law_right_option (w : World) (K : PySem.W.Frag) (W : WX) : TS :=
  (tSeq (tIfS (tOr (tTest (tOp zIsB (tVar 0) (tC (.bl true)))) (tTest (tOp zIsB (tVar 0) (tC (.bl false))))) (tRet (tC (.bl true))) tNext)
  (tSeq (tIfS (tOr (tNot (tB (tCB (zIsi K) (tCons (tVar 0) (tCons (tC (.ty "tuple")) tNil))))) (tTest (tOp (zNe K) (tCB (zLen K) (tCons (tVar 0) tNil)) (tC (.int 4))))) (tRet (tC (.bl false))) tNext)
  (tSeq (tFor (iTup K (tVar 0)) (gName 3) (tIfS (tNot (tB (tCallS (spz K (F__law_whole K)) (WE W) (tCons (tVar 3) tNil)))) (tRet (tC (.bl false))) tNext))
  (tSeq (tAsg (tAndV (tOp zLe (tUn (rU fun i => .int (-i)) (tC (.int 1))) (tOp (zIx K) (tVar 0) (tC (.int 0)))) (tAndV (tOp zLe (tOp (zIx K) (tVar 0) (tC (.int 0))) (tC (.int 1))) (tAndV (tOp zLe (tUn (rU fun i => .int (-i)) (tC (.int 1))) (tOp (zIx K) (tVar 0) (tC (.int 2)))) (tOp zLe (tOp (zIx K) (tVar 0) (tC (.int 2))) (tC (.int 1)))))) (gName 4))
  (tRet (tAndV (tVar 4) (tAndV (tOp zLe (tC (.int 0)) (tOp (zIx K) (tVar 0) (tC (.int 1)))) (tAndV (tOp zLt (tOp (zIx K) (tVar 0) (tC (.int 1))) (tVar 1)) (tAndV (tOp zLe (tC (.int 0)) (tOp (zIx K) (tVar 0) (tC (.int 3)))) (tOp zLt (tOp (zIx K) (tVar 0) (tC (.int 3))) (tVar 2)))))))))))
theorem ps__law_right_option (T : Tx w K mg) (D__law_whole : Df P w K mg base "_law_whole" ["value"] 1 (spz K (F__law_whole K))) {f : Addr} {cdv : Value} {A : Around} {outer : List Env} {s : Shared} {H : Hp} {E : XK} (hr : Room 1 (A.deeper (envOfC "_law_right_option" (defScope s__law_right_option) s.heap.objs.size f cdv))) :
    PSs (cxOf (L2.CX P w) P w K mg base N__law_right_option "_law_right_option" (defScope s__law_right_option) f cdv A outer s H E) (defBody s__law_right_option) (t__law_right_option w K (fun cls d _ H' => E cls d H')) := by
  have nd := sc__law_right_option.nd
  have hu := hr.units
  have tk : Takes (cxOf (L2.CX P w) P w K mg base N__law_right_option "_law_right_option" (defScope s__law_right_option) f cdv A outer s H E) (fun cls d _ H' => E cls d H') := takes_of rfl rfl rfl rfl
  exact (pss_cons (ps_if (PW.pt (pw_or (pt_cmpR op_zIsB (pv 0) pe_bl (nomark _)) (pw_or1 (pt_cmpR op_zIsB (pv 0) pe_bl (nomark _))))) (pss_one (ps_ret pe_bl)) pss_nil)
  (pss_cons (ps_if (PW.pt (pw_or (pt_not (pt_val (pe_callB call_zIsi (by rfl) T.f_isinstance bt_isinstance (pa_cons (pv 0) (pa_cons (pe_bltn (by rfl) T.f_tuple bt_tuple rfl) pa_nil))))) (pw_or1 (pt_cmpR (op_zNe hu) (pe_callB call_zLen (by rfl) T.f_len bt_len (pa_cons (pv 0) pa_nil)) pe_int (nomark _))))) (pss_one (ps_ret pe_bl)) pss_nil)
  (pss_cons (ps_for (passes_of rfl) rfl (pi_tup (pv 0)) (pg_name (i := 3) nd rfl (Or.inl rfl)) (pss_one (ps_if (pt_not (pt_val (pe_callZ D__law_whole (hr.mono (by omega)) tk (pa_cons (pv 3) pa_nil)))) (pss_one (ps_ret pe_bl)) pss_nil)))
  (pss_cons (ps_set (i := 4) nd rfl (Or.inl rfl) (pe_and (pe_cmpR op_zLe (pe_un un_neg pe_int) (pe_ix (ix_z hu) (pv 0) pe_int (fun _ _ => rfl)) (nomark _)) (pe_and (pe_cmpR op_zLe (pe_ix (ix_z hu) (pv 0) pe_int (fun _ _ => rfl)) pe_int (nomark _)) (pe_and (pe_cmpR op_zLe (pe_un un_neg pe_int) (pe_ix (ix_z hu) (pv 0) pe_int (fun _ _ => rfl)) (nomark _)) (pe_one (pe_cmpR op_zLe (pe_ix (ix_z hu) (pv 0) pe_int (fun _ _ => rfl)) pe_int (nomark _)))))))
  (pss_one (ps_ret (pe_and (pv 4) (pe_and (pe_cmpR op_zLe pe_int (pe_ix (ix_z hu) (pv 0) pe_int (fun _ _ => rfl)) (nomark _)) (pe_and (pe_cmpR op_zLt (pe_ix (ix_z hu) (pv 0) pe_int (fun _ _ => rfl)) (pv 1) (nomark _)) (pe_and (pe_cmpR op_zLe pe_int (pe_ix (ix_z hu) (pv 0) pe_int (fun _ _ => rfl)) (nomark _)) (pe_one (pe_cmpR op_zLt (pe_ix (ix_z hu) (pv 0) pe_int (fun _ _ => rfl)) (pv 2) (nomark _)))))))))))))
def t__law_first_wrong (w : World) (K : PySem.W.Frag) (W : WX) : TS :=
  (tSeq (tIfS (tTest (tOp (zEq K) (tCB (zLen K) (tCons (tVar 0) tNil)) (tC (.int 0)))) (tRet (tC (.int 0))) tNext)
  (tSeq (tFor (iRng1 (tCons (tCB (zLen K) (tCons (tVar 0) tNil)) tNil)) (gName 3) (tSeq (tIfS (tTest (tOp (zNe K) (tCB (zLen K) (tCons (tOp (zIx K) (tVar 0) (tVar 3)) tNil)) (tVar 1))) (tRet (tVar 3)) tNext)
  (tFor (iList K (tOp (zIx K) (tVar 0) (tVar 3))) (gName 4) (tSeq (tIfS (tTest (tOp (zNe K) (tCB (zLen K) (tCons (tVar 4) tNil)) (tVar 2))) (tRet (tVar 3)) tNext)
  (tFor (iList K (tVar 4)) (gName 5) (tIfS (tNot (tB (tCallS (spz K (F__law_right_option K)) (WE W) (tCons (tVar 5) (tCons (tVar 2) (tCons (tCB (zLen K) (tCons (tVar 0) tNil)) tNil)))))) (tRet (tVar 3)) tNext))))))
  (tRet (tC .non))))
theorem ps__law_first_wrong (T : Tx w K mg) (D__law_right_option : Df P w K mg base "_law_right_option" ["option", "second", "states"] 2 (spz K (F__law_right_option K))) {f : Addr} {cdv : Value} {A : Around} {outer : List Env} {s : Shared} {H : Hp} {E : XK} (hr : Room 2 (A.deeper (envOfC "_law_first_wrong" (defScope s__law_first_wrong) s.heap.objs.size f cdv))) :
    PSs (cxOf (L2.CX P w) P w K mg base N__law_first_wrong "_law_first_wrong" (defScope s__law_first_wrong) f cdv A outer s H E) (defBody s__law_first_wrong) (t__law_first_wrong w K (fun cls d _ H' => E cls d H')) := by
  have nd := sc__law_first_wrong.nd
  have hu := hr.units
  have tk : Takes (cxOf (L2.CX P w) P w K mg base N__law_first_wrong "_law_first_wrong" (defScope s__law_first_wrong) f cdv A outer s H E) (fun cls d _ H' => E cls d H') := takes_of rfl rfl rfl rfl
  exact (pss_cons (ps_if (pt_cmpR (op_zEq hu) (pe_callB call_zLen (by rfl) T.f_len bt_len (pa_cons (pv 0) pa_nil)) pe_int (nomark _)) (pss_one (ps_ret pe_int)) pss_nil)
  (pss_cons (ps_for (passes_of rfl) rfl (pi_range1 (by rfl) T.f_range (pa_cons (pe_callB call_zLen (by rfl) T.f_len bt_len (pa_cons (pv 0) pa_nil)) pa_nil)) (pg_name (i := 3) nd rfl (Or.inl rfl)) (pss_cons (ps_if (pt_cmpR (op_zNe hu) (pe_callB call_zLen (by rfl) T.f_len bt_len (pa_cons (pe_ix (ix_z hu) (pv 0) (pv 3) (fun _ _ => rfl)) pa_nil)) (pv 1) (nomark _)) (pss_one (ps_ret (pv 3))) pss_nil)
  (pss_one (ps_for (passes_of rfl) rfl (pi_list (pe_ix (ix_z hu) (pv 0) (pv 3) (fun _ _ => rfl))) (pg_name (i := 4) nd rfl (Or.inl rfl)) (pss_cons (ps_if (pt_cmpR (op_zNe hu) (pe_callB call_zLen (by rfl) T.f_len bt_len (pa_cons (pv 4) pa_nil)) (pv 2) (nomark _)) (pss_one (ps_ret (pv 3))) pss_nil)
  (pss_one (ps_for (passes_of rfl) rfl (pi_list (pv 4)) (pg_name (i := 5) nd rfl (Or.inl rfl)) (pss_one (ps_if (pt_not (pt_val (pe_callZ D__law_right_option (hr.mono (by omega)) tk (pa_cons (pv 5) (pa_cons (pv 2) (pa_cons (pe_callB call_zLen (by rfl) T.f_len bt_len (pa_cons (pv 0) pa_nil)) pa_nil)))))) (pss_one (ps_ret (pv 3))) pss_nil)))))))))
  (pss_one (ps_ret pe_non))))
def t__law_told (w : World) (K : PySem.W.Frag) (W : WX) : TS :=
  (tSeq (tTryAs K (.ref (He.ga K (PySem.Str.ofString "ClockError"))) 3 (fun a cls d => (tSeq (tAsg (tLst (tCons (tCB (rIsG K a cls d) (tCons (tVar 3) (tCons (tC (.ref (He.ga K (PySem.Str.ofString "BadLetters")))) tNil))) (tCons (tCB (rIsG K a cls d) (tCons (tVar 3) (tCons (tC (.ref (He.ga K (PySem.Str.ofString "BadTable")))) tNil))) (tCons (tCB (rIsG K a cls d) (tCons (tVar 3) (tCons (tC (.ref (He.ga K (PySem.Str.ofString "BadText")))) tNil))) (tCons (tCB (rIsG K a cls d) (tCons (tVar 3) (tCons (tC (.ref (He.ga K (PySem.Str.ofString "Guesses")))) tNil))) tNil))))) (gName 4))
  (tSeq (tIfS (tAnd (tTest (tOp (zEq K) (tVar 4) (tLst (tCons (tC (.bl true)) (tCons (tC (.bl false)) (tCons (tC (.bl false)) (tCons (tC (.bl false)) tNil))))))) (tB (tCB (rIsG K a cls d) (tCons (tVar 3) (tCons (tC (.ty "ValueError")) tNil))))) (tRet (tLst (tCons (tC (.str (tx [108, 101, 116, 116, 101, 114, 115]))) (tCons (tXg K a cls d (PySem.Str.ofString "letters") (tVar 3)) tNil)))) tNext)
  (tSeq (tIfS (tAnd (tTest (tOp (zEq K) (tVar 4) (tLst (tCons (tC (.bl false)) (tCons (tC (.bl true)) (tCons (tC (.bl false)) (tCons (tC (.bl false)) tNil))))))) (tB (tCB (rIsG K a cls d) (tCons (tVar 3) (tCons (tC (.ty "ValueError")) tNil))))) (tRet (tLst (tCons (tC (.str (tx [115, 116, 97, 116, 101]))) (tCons (tXg K a cls d (PySem.Str.ofString "state") (tVar 3)) tNil)))) tNext)
  (tRet (tLst (tCons (tC (.str (tx [111, 116, 104, 101, 114]))) (tCons (tC (.int 0)) tNil)))))))) W (fun W1 => (tDrop (tMkZ (He.ga K (PySem.Str.ofString "TwoTape")) (spI K (He.ga K "TwoTape") (F_TwoTape K)) (WE W1) (tCons (tVar 0) (tCons (tVar 1) (tCons (tVar 2) tNil)))))))
  (tRet (tLst (tCons (tC (.str (tx [108, 101, 116]))) (tCons (tC (.int 0)) tNil)))))
theorem ps__law_told (T : Tx w K mg) (C_TwoTape : Dc P w K mg base "TwoTape" (He.ga K "TwoTape") ["self", "letters", "second_symbols", "table"] 8 (spI K (He.ga K "TwoTape") (F_TwoTape K))) {f : Addr} {cdv : Value} {A : Around} {outer : List Env} {s : Shared} {H : Hp} {E : XK} (hr : Room 9 (A.deeper (envOfC "_law_told" (defScope s__law_told) s.heap.objs.size f cdv))) :
    PSs (cxOf (L2.CX P w) P w K mg base N__law_told "_law_told" (defScope s__law_told) f cdv A outer s H E) (defBody s__law_told) (t__law_told w K (fun cls d _ H' => E cls d H')) := by
  have nd := sc__law_told.nd
  have hu := hr.units
  have tk : Takes (cxOf (L2.CX P w) P w K mg base N__law_told "_law_told" (defScope s__law_told) f cdv A outer s H E) (fun cls d _ H' => E cls d H') := takes_of rfl rfl rfl rfl
  exact (pss_cons (ps_try_as (i := 3) (tb := fun W1 => (tDrop (tMkZ (He.ga K (PySem.Str.ofString "TwoTape")) (spI K (He.ga K "TwoTape") (F_TwoTape K)) (WE W1) (tCons (tVar 0) (tCons (tVar 1) (tCons (tVar 2) tNil)))))) (ts := fun a cls d => (tSeq (tAsg (tLst (tCons (tCB (rIsG K a cls d) (tCons (tVar 3) (tCons (tC (.ref (He.ga K (PySem.Str.ofString "BadLetters")))) tNil))) (tCons (tCB (rIsG K a cls d) (tCons (tVar 3) (tCons (tC (.ref (He.ga K (PySem.Str.ofString "BadTable")))) tNil))) (tCons (tCB (rIsG K a cls d) (tCons (tVar 3) (tCons (tC (.ref (He.ga K (PySem.Str.ofString "BadText")))) tNil))) (tCons (tCB (rIsG K a cls d) (tCons (tVar 3) (tCons (tC (.ref (He.ga K (PySem.Str.ofString "Guesses")))) tNil))) tNil))))) (gName 4))
  (tSeq (tIfS (tAnd (tTest (tOp (zEq K) (tVar 4) (tLst (tCons (tC (.bl true)) (tCons (tC (.bl false)) (tCons (tC (.bl false)) (tCons (tC (.bl false)) tNil))))))) (tB (tCB (rIsG K a cls d) (tCons (tVar 3) (tCons (tC (.ty "ValueError")) tNil))))) (tRet (tLst (tCons (tC (.str (tx [108, 101, 116, 116, 101, 114, 115]))) (tCons (tXg K a cls d (PySem.Str.ofString "letters") (tVar 3)) tNil)))) tNext)
  (tSeq (tIfS (tAnd (tTest (tOp (zEq K) (tVar 4) (tLst (tCons (tC (.bl false)) (tCons (tC (.bl true)) (tCons (tC (.bl false)) (tCons (tC (.bl false)) tNil))))))) (tB (tCB (rIsG K a cls d) (tCons (tVar 3) (tCons (tC (.ty "ValueError")) tNil))))) (tRet (tLst (tCons (tC (.str (tx [115, 116, 97, 116, 101]))) (tCons (tXg K a cls d (PySem.Str.ofString "state") (tVar 3)) tNil)))) tNext)
  (tRet (tLst (tCons (tC (.str (tx [111, 116, 104, 101, 114]))) (tCons (tC (.int 0)) tNil)))))))) rfl rfl nd rfl rfl ⟨by rfl, by decide, .inl T.g_ClockError⟩ tk (fun W1 pn xe tk1 po1 => (pss_one (ps_expr (pe_mkZ C_TwoTape (hr.mono (by omega)) tk1 (pa_cons (pv 0) (pa_cons (pv 1) (pa_cons (pv 2) pa_nil))))))) (fun a oe cls d pn hz hf => (pss_cons (ps_set (i := 4) nd rfl (Or.inl rfl) (pe_lst (pa_cons (pe_callB (call_isG hz hf) (by rfl) T.f_isinstance bt_isinstance (pa_cons (pv 3) (pa_cons (pe_glob (by rfl) T.g_BadLetters rfl) pa_nil))) (pa_cons (pe_callB (call_isG hz hf) (by rfl) T.f_isinstance bt_isinstance (pa_cons (pv 3) (pa_cons (pe_glob (by rfl) T.g_BadTable rfl) pa_nil))) (pa_cons (pe_callB (call_isG hz hf) (by rfl) T.f_isinstance bt_isinstance (pa_cons (pv 3) (pa_cons (pe_glob (by rfl) T.g_BadText rfl) pa_nil))) (pa_cons (pe_callB (call_isG hz hf) (by rfl) T.f_isinstance bt_isinstance (pa_cons (pv 3) (pa_cons (pe_glob (by rfl) T.g_Guesses rfl) pa_nil))) pa_nil))))))
  (pss_cons (ps_if (PW.pt (pw_and (pt_cmpR (op_zEq hu) (pv 4) (pe_lst (pa_cons pe_bl (pa_cons pe_bl (pa_cons pe_bl (pa_cons pe_bl pa_nil))))) (nomark _)) (pw_and1 (pt_val (pe_callB (call_isG hz hf) (by rfl) T.f_isinstance bt_isinstance (pa_cons (pv 3) (pa_cons (pe_bltn (by rfl) T.f_ValueError bt_ValueError rfl) pa_nil))))))) (pss_one (ps_ret (pe_lst (pa_cons pe_str (pa_cons (pe_xg hz hf (pv 3)) pa_nil))))) pss_nil)
  (pss_cons (ps_if (PW.pt (pw_and (pt_cmpR (op_zEq hu) (pv 4) (pe_lst (pa_cons pe_bl (pa_cons pe_bl (pa_cons pe_bl (pa_cons pe_bl pa_nil))))) (nomark _)) (pw_and1 (pt_val (pe_callB (call_isG hz hf) (by rfl) T.f_isinstance bt_isinstance (pa_cons (pv 3) (pa_cons (pe_bltn (by rfl) T.f_ValueError bt_ValueError rfl) pa_nil))))))) (pss_one (ps_ret (pe_lst (pa_cons pe_str (pa_cons (pe_xg hz hf (pv 3)) pa_nil))))) pss_nil)
  (pss_one (ps_ret (pe_lst (pa_cons pe_str (pa_cons pe_int pa_nil))))))))))
  (pss_one (ps_ret (pe_lst (pa_cons pe_str (pa_cons pe_int pa_nil))))))
def t__law_changed_tables (w : World) (K : PySem.W.Frag) (W : WX) : TS :=
  (tSeq (tAsg (tLst tNil) (gName 5))
  (tSeq (tAsg (tCallS (spz K (F__law_digits K)) (WE W) (tCons (tCallS (spz K (F__law_cell K)) (WE W) (tCons (tVar 0) (tCons (tC (.int 2)) tNil))) (tCons (tOp zMul (tLst (tCons (tC (.int 34)) (tCons (tC (.int 4)) (tCons (tC (.int 4)) (tCons (tC (.int 100)) (tCons (tC (.int 6)) tNil)))))) (tC (.int 12))) tNil))) (gName 6))
  (tSeq (tFor (iRng1 (tCons (tC (.int 6)) tNil)) (gName 7) (tSeq (tAsg (tCallS (spz K (F__law_spoilt K)) (WE W) (tCons (tVar 3) (tCons (tSl (zSl K) (tVar 6) (tPart (tOp zMul (tC (.int 10)) (tVar 7))) (tPart (tOp (zAdd K) (tOp zMul (tC (.int 10)) (tVar 7)) (tC (.int 5))))) (tCons (tVar 2) tNil)))) (gName 8))
  (tSeq (tIfS (tTest (tOp (zEq K) (tOp zMod (tVar 7) (tC (.int 2))) (tC (.int 1)))) (tAsg (tCallS (spz K (F__law_spoilt K)) (WE W) (tCons (tVar 8) (tCons (tSl (zSl K) (tVar 6) (tPart (tOp (zAdd K) (tOp zMul (tC (.int 10)) (tVar 7)) (tC (.int 5)))) (tPart (tOp (zAdd K) (tOp zMul (tC (.int 10)) (tVar 7)) (tC (.int 10))))) (tCons (tVar 2) tNil)))) (gName 8)) tNext)
  (tSeq (tAsg (tCallS (spz K (F__law_first_wrong K)) (WE W) (tCons (tVar 8) (tCons (tOp (zAdd K) (tC (.int 1)) (tCB (zLen K) (tCons (tVar 1) tNil))) (tCons (tVar 2) tNil)))) (gName 9))
  (tSeq (tAsg (tCallS (spm K (F__law_handed K)) (WE W) (tCons (tVar 8) (tCons (tOp zMod (tCB zInt (tCons (tOp (zAdd K) (tVar 4) (tVar 7)) tNil)) (tC (.int 8))) tNil))) (gName 10))
  (tSeq (tIfS (tTest (tOp zLt (tVar 7) (tC (.int 2)))) (tAsg (tCB (zTuple K) (tCons (tVar 10) tNil)) (gName 10)) tNext)
  (tSeq (tAsg (tCallS (spz K (F__law_told K)) (WE W) (tCons (tVar 1) (tCons (tVar 2) (tCons (tVar 10) tNil)))) (gName 11))
  (tIfS (tTest (tOp zIsN (tVar 9) (tC .non))) (tSeq (tIfS (tTest (tOp (zNe K) (tOp (zIx K) (tVar 11) (tC (.int 0))) (tC (.str (tx [108, 101, 116]))))) (tRet (tC .non)) tNext)
  (tSeq (tAsg (tCallS (spm K (F__law_handed K)) (WE W) (tCons (tVar 8) (tCons (tOp zMod (tCB zInt (tCons (tOp (zAdd K) (tVar 4) (tOp zMul (tC (.int 3)) (tVar 7))) tNil)) (tC (.int 8))) tNil))) (gName 10))
  (tSeq (tDrop (tBM K "list" rAppend (tVar 5) (tCons (tLst (tCons (tMkZ (He.ga K (PySem.Str.ofString "TwoTape")) (spI K (He.ga K "TwoTape") (F_TwoTape K)) (WE W) (tCons (tVar 1) (tCons (tVar 2) (tCons (tVar 10) tNil)))) (tCons (tVar 8) tNil))) tNil)))
  (tDrop (tCallS (spm K (F__law_ruin K)) (WE W) (tCons (tVar 10) tNil)))))) (tIfS (tOr (tTest (tOp (zNe K) (tOp (zIx K) (tVar 11) (tC (.int 0))) (tC (.str (tx [115, 116, 97, 116, 101]))))) (tOr (tNot (tB (tCallS (spz K (F__law_whole K)) (WE W) (tCons (tOp (zIx K) (tVar 11) (tC (.int 1))) tNil)))) (tTest (tOp (zNe K) (tOp (zIx K) (tVar 11) (tC (.int 1))) (tVar 9))))) (tRet (tC .non)) tNext)))))))))
  (tRet (tVar 5)))))
theorem ps__law_changed_tables (T : Tx w K mg) (C_TwoTape : Dc P w K mg base "TwoTape" (He.ga K "TwoTape") ["self", "letters", "second_symbols", "table"] 8 (spI K (He.ga K "TwoTape") (F_TwoTape K))) (D__law_cell : Df P w K mg base "_law_cell" ["script", "k"] 1 (spz K (F__law_cell K))) (D__law_digits : Df P w K mg base "_law_digits" ["cell", "sizes"] 1 (spz K (F__law_digits K))) (D__law_first_wrong : Df P w K mg base "_law_first_wrong" ["rows", "first", "second"] 3 (spz K (F__law_first_wrong K))) (D__law_handed : Df P w K mg base "_law_handed" ["rows", "style"] 1 (spm K (F__law_handed K))) (D__law_ruin : Df P w K mg base "_law_ruin" ["handed"] 1 (spm K (F__law_ruin K))) (D__law_spoilt : Df P w K mg base "_law_spoilt" ["rows", "digits", "second"] 2 (spz K (F__law_spoilt K))) (D__law_told : Df P w K mg base "_law_told" ["letters", "second", "handed"] 10 (spz K (F__law_told K))) (D__law_whole : Df P w K mg base "_law_whole" ["value"] 1 (spz K (F__law_whole K))) {f : Addr} {cdv : Value} {A : Around} {outer : List Env} {s : Shared} {H : Hp} {E : XK} (hr : Room 10 (A.deeper (envOfC "_law_changed_tables" (defScope s__law_changed_tables) s.heap.objs.size f cdv))) :
    PSs (cxOf (L2.CX P w) P w K mg base N__law_changed_tables "_law_changed_tables" (defScope s__law_changed_tables) f cdv A outer s H E) (defBody s__law_changed_tables) (t__law_changed_tables w K (fun cls d _ H' => E cls d H')) := by
  have nd := sc__law_changed_tables.nd
  have hu := hr.units
  have tk : Takes (cxOf (L2.CX P w) P w K mg base N__law_changed_tables "_law_changed_tables" (defScope s__law_changed_tables) f cdv A outer s H E) (fun cls d _ H' => E cls d H') := takes_of rfl rfl rfl rfl
  exact (pss_cons (ps_set (i := 5) nd rfl (Or.inl rfl) (pe_lst pa_nil))
  (pss_cons (ps_set (i := 6) nd rfl (Or.inl rfl) (pe_callZ D__law_digits (hr.mono (by omega)) tk (pa_cons (pe_callZ D__law_cell (hr.mono (by omega)) tk (pa_cons (pv 0) (pa_cons pe_int pa_nil))) (pa_cons (pe_op op_zMul (pe_lst (pa_cons pe_int (pa_cons pe_int (pa_cons pe_int (pa_cons pe_int (pa_cons pe_int pa_nil)))))) pe_int) pa_nil))))
  (pss_cons (ps_for (passes_of rfl) rfl (pi_range1 (by rfl) T.f_range (pa_cons pe_int pa_nil)) (pg_name (i := 7) nd rfl (Or.inl rfl)) (pss_cons (ps_set (i := 8) nd rfl (Or.inl rfl) (pe_callZ D__law_spoilt (hr.mono (by omega)) tk (pa_cons (pv 3) (pa_cons (pe_slice sl_z (pv 6) (po_some (pe_op op_zMul pe_int (pv 7))) (po_some (pe_op op_zAdd (pe_op op_zMul pe_int (pv 7)) pe_int))) (pa_cons (pv 2) pa_nil)))))
  (pss_cons (ps_if (pt_cmpR (op_zEq hu) (pe_op op_zMod (pv 7) pe_int) pe_int (nomark _)) (pss_one (ps_set (i := 8) nd rfl (Or.inl rfl) (pe_callZ D__law_spoilt (hr.mono (by omega)) tk (pa_cons (pv 8) (pa_cons (pe_slice sl_z (pv 6) (po_some (pe_op op_zAdd (pe_op op_zMul pe_int (pv 7)) pe_int)) (po_some (pe_op op_zAdd (pe_op op_zMul pe_int (pv 7)) pe_int))) (pa_cons (pv 2) pa_nil)))))) pss_nil)
  (pss_cons (ps_set (i := 9) nd rfl (Or.inl rfl) (pe_callZ D__law_first_wrong (hr.mono (by omega)) tk (pa_cons (pv 8) (pa_cons (pe_op op_zAdd pe_int (pe_callB call_zLen (by rfl) T.f_len bt_len (pa_cons (pv 1) pa_nil))) (pa_cons (pv 2) pa_nil)))))
  (pss_cons (ps_set (i := 10) nd rfl (Or.inl rfl) (pe_callZ D__law_handed (hr.mono (by omega)) tk (pa_cons (pv 8) (pa_cons (pe_op op_zMod (pe_callTy call_zInt (by rfl) T.f_int bt_int (pa_cons (pe_op op_zAdd (pv 4) (pv 7)) pa_nil)) pe_int) pa_nil))))
  (pss_cons (ps_if (pt_cmpR op_zLt (pv 7) pe_int (nomark _)) (pss_one (ps_set (i := 10) nd rfl (Or.inl rfl) (pe_callTy call_zTuple (by rfl) T.f_tuple bt_tuple (pa_cons (pv 10) pa_nil)))) pss_nil)
  (pss_cons (ps_set (i := 11) nd rfl (Or.inl rfl) (pe_callZ D__law_told (hr.mono (by omega)) tk (pa_cons (pv 1) (pa_cons (pv 2) (pa_cons (pv 10) pa_nil)))))
  (pss_one (ps_if (pt_cmpR op_zIsN (pv 9) pe_non (nomark _)) (pss_cons (ps_if (pt_cmpR (op_zNe hu) (pe_ix (ix_z hu) (pv 11) pe_int (fun _ _ => rfl)) pe_str (nomark _)) (pss_one (ps_ret pe_non)) pss_nil)
  (pss_cons (ps_set (i := 10) nd rfl (Or.inl rfl) (pe_callZ D__law_handed (hr.mono (by omega)) tk (pa_cons (pv 8) (pa_cons (pe_op op_zMod (pe_callTy call_zInt (by rfl) T.f_int bt_int (pa_cons (pe_op op_zAdd (pv 4) (pe_op op_zMul pe_int (pv 7))) pa_nil)) pe_int) pa_nil))))
  (pss_cons (ps_expr (pe_bm PySem.F.plainAttrs_list PySem.F.slot_list_append PySem.F.type_list_append mt_append (pv 5) (pa_cons (pe_lst (pa_cons (pe_mkZ C_TwoTape (hr.mono (by omega)) tk (pa_cons (pv 1) (pa_cons (pv 2) (pa_cons (pv 10) pa_nil)))) (pa_cons (pv 8) pa_nil))) pa_nil)))
  (pss_one (ps_expr (pe_callZ D__law_ruin (hr.mono (by omega)) tk (pa_cons (pv 10) pa_nil))))))) (pss_one (ps_if (PW.pt (pw_or (pt_cmpR (op_zNe hu) (pe_ix (ix_z hu) (pv 11) pe_int (fun _ _ => rfl)) pe_str (nomark _)) (pw_or (pt_not (pt_val (pe_callZ D__law_whole (hr.mono (by omega)) tk (pa_cons (pe_ix (ix_z hu) (pv 11) pe_int (fun _ _ => rfl)) pa_nil)))) (pw_or1 (pt_cmpR (op_zNe hu) (pe_ix (ix_z hu) (pv 11) pe_int (fun _ _ => rfl)) (pv 9) (nomark _)))))) (pss_one (ps_ret pe_non)) pss_nil)))))))))))
  (pss_one (ps_ret (pv 5))))))
def t__law_same_option (w : World) (K : PySem.W.Frag) (W : WX) : TS :=
  (tSeq (tIfS (tTest (tOp zIsB (tVar 1) (tC (.bl true)))) (tRet (tOp zIsB (tVar 0) (tC (.bl true)))) tNext)
  (tSeq (tIfS (tTest (tOp zIsB (tVar 1) (tC (.bl false)))) (tRet (tOp zIsB (tVar 0) (tC (.bl false)))) tNext)
  (tSeq (tIfS (tOr (tNot (tB (tCB (zIsi K) (tCons (tVar 0) (tCons (tC (.ty "tuple")) tNil))))) (tTest (tOp (zNe K) (tCB (zLen K) (tCons (tVar 0) tNil)) (tC (.int 4))))) (tRet (tC (.bl false))) tNext)
  (tSeq (tFor (iRng1 (tCons (tC (.int 4)) tNil)) (gName 2) (tIfS (tOr (tNot (tB (tCallS (spz K (F__law_whole K)) (WE W) (tCons (tOp (zIx K) (tVar 0) (tVar 2)) tNil)))) (tTest (tOp (zNe K) (tOp (zIx K) (tVar 0) (tVar 2)) (tOp (zIx K) (tVar 1) (tVar 2))))) (tRet (tC (.bl false))) tNext))
  (tRet (tC (.bl true)))))))
theorem ps__law_same_option (T : Tx w K mg) (D__law_whole : Df P w K mg base "_law_whole" ["value"] 1 (spz K (F__law_whole K))) {f : Addr} {cdv : Value} {A : Around} {outer : List Env} {s : Shared} {H : Hp} {E : XK} (hr : Room 1 (A.deeper (envOfC "_law_same_option" (defScope s__law_same_option) s.heap.objs.size f cdv))) :
    PSs (cxOf (L2.CX P w) P w K mg base N__law_same_option "_law_same_option" (defScope s__law_same_option) f cdv A outer s H E) (defBody s__law_same_option) (t__law_same_option w K (fun cls d _ H' => E cls d H')) := by
  have nd := sc__law_same_option.nd
  have hu := hr.units
  have tk : Takes (cxOf (L2.CX P w) P w K mg base N__law_same_option "_law_same_option" (defScope s__law_same_option) f cdv A outer s H E) (fun cls d _ H' => E cls d H') := takes_of rfl rfl rfl rfl
  exact (pss_cons (ps_if (pt_cmpR op_zIsB (pv 1) pe_bl (nomark _)) (pss_one (ps_ret (pe_cmpR op_zIsB (pv 0) pe_bl (nomark _)))) pss_nil)
  (pss_cons (ps_if (pt_cmpR op_zIsB (pv 1) pe_bl (nomark _)) (pss_one (ps_ret (pe_cmpR op_zIsB (pv 0) pe_bl (nomark _)))) pss_nil)
  (pss_cons (ps_if (PW.pt (pw_or (pt_not (pt_val (pe_callB call_zIsi (by rfl) T.f_isinstance bt_isinstance (pa_cons (pv 0) (pa_cons (pe_bltn (by rfl) T.f_tuple bt_tuple rfl) pa_nil))))) (pw_or1 (pt_cmpR (op_zNe hu) (pe_callB call_zLen (by rfl) T.f_len bt_len (pa_cons (pv 0) pa_nil)) pe_int (nomark _))))) (pss_one (ps_ret pe_bl)) pss_nil)
  (pss_cons (ps_for (passes_of rfl) rfl (pi_range1 (by rfl) T.f_range (pa_cons pe_int pa_nil)) (pg_name (i := 2) nd rfl (Or.inl rfl)) (pss_one (ps_if (PW.pt (pw_or (pt_not (pt_val (pe_callZ D__law_whole (hr.mono (by omega)) tk (pa_cons (pe_ix (ix_z hu) (pv 0) (pv 2) (fun _ _ => rfl)) pa_nil)))) (pw_or1 (pt_cmpR (op_zNe hu) (pe_ix (ix_z hu) (pv 0) (pv 2) (fun _ _ => rfl)) (pe_ix (ix_z hu) (pv 1) (pv 2) (fun _ _ => rfl)) (nomark _))))) (pss_one (ps_ret pe_bl)) pss_nil)))
  (pss_one (ps_ret pe_bl))))))
def t__law_same_table (w : World) (K : PySem.W.Frag) (W : WX) : TS :=
  (tSeq (tIfS (tOr (tNot (tB (tCB (zIsi K) (tCons (tVar 0) (tCons (tC (.ty "tuple")) tNil))))) (tTest (tOp (zNe K) (tCB (zLen K) (tCons (tVar 0) tNil)) (tCB (zLen K) (tCons (tVar 1) tNil))))) (tRet (tC (.bl false))) tNext)
  (tSeq (tFor (iRng1 (tCons (tCB (zLen K) (tCons (tVar 1) tNil)) tNil)) (gName 2) (tSeq (tIfS (tOr (tNot (tB (tCB (zIsi K) (tCons (tOp (zIx K) (tVar 0) (tVar 2)) (tCons (tC (.ty "tuple")) tNil))))) (tTest (tOp (zNe K) (tCB (zLen K) (tCons (tOp (zIx K) (tVar 0) (tVar 2)) tNil)) (tCB (zLen K) (tCons (tOp (zIx K) (tVar 1) (tVar 2)) tNil))))) (tRet (tC (.bl false))) tNext)
  (tFor (iRng1 (tCons (tCB (zLen K) (tCons (tOp (zIx K) (tVar 1) (tVar 2)) tNil)) tNil)) (gName 3) (tSeq (tAsg (tOp (zIx K) (tOp (zIx K) (tVar 0) (tVar 2)) (tVar 3)) (gName 4))
  (tSeq (tIfS (tOr (tNot (tB (tCB (zIsi K) (tCons (tVar 4) (tCons (tC (.ty "tuple")) tNil))))) (tTest (tOp (zNe K) (tCB (zLen K) (tCons (tVar 4) tNil)) (tCB (zLen K) (tCons (tOp (zIx K) (tOp (zIx K) (tVar 1) (tVar 2)) (tVar 3)) tNil))))) (tRet (tC (.bl false))) tNext)
  (tFor (iRng1 (tCons (tCB (zLen K) (tCons (tVar 4) tNil)) tNil)) (gName 5) (tIfS (tNot (tB (tCallS (spz K (F__law_same_option K)) (WE W) (tCons (tOp (zIx K) (tVar 4) (tVar 5)) (tCons (tOp (zIx K) (tOp (zIx K) (tOp (zIx K) (tVar 1) (tVar 2)) (tVar 3)) (tVar 5)) tNil))))) (tRet (tC (.bl false))) tNext)))))))
  (tRet (tC (.bl true)))))
theorem ps__law_same_table (T : Tx w K mg) (D__law_same_option : Df P w K mg base "_law_same_option" ["told", "option"] 2 (spz K (F__law_same_option K))) {f : Addr} {cdv : Value} {A : Around} {outer : List Env} {s : Shared} {H : Hp} {E : XK} (hr : Room 2 (A.deeper (envOfC "_law_same_table" (defScope s__law_same_table) s.heap.objs.size f cdv))) :
    PSs (cxOf (L2.CX P w) P w K mg base N__law_same_table "_law_same_table" (defScope s__law_same_table) f cdv A outer s H E) (defBody s__law_same_table) (t__law_same_table w K (fun cls d _ H' => E cls d H')) := by
  have nd := sc__law_same_table.nd
  have hu := hr.units
  have tk : Takes (cxOf (L2.CX P w) P w K mg base N__law_same_table "_law_same_table" (defScope s__law_same_table) f cdv A outer s H E) (fun cls d _ H' => E cls d H') := takes_of rfl rfl rfl rfl
  exact (pss_cons (ps_if (PW.pt (pw_or (pt_not (pt_val (pe_callB call_zIsi (by rfl) T.f_isinstance bt_isinstance (pa_cons (pv 0) (pa_cons (pe_bltn (by rfl) T.f_tuple bt_tuple rfl) pa_nil))))) (pw_or1 (pt_cmpR (op_zNe hu) (pe_callB call_zLen (by rfl) T.f_len bt_len (pa_cons (pv 0) pa_nil)) (pe_callB call_zLen (by rfl) T.f_len bt_len (pa_cons (pv 1) pa_nil)) (nomark _))))) (pss_one (ps_ret pe_bl)) pss_nil)
  (pss_cons (ps_for (passes_of rfl) rfl (pi_range1 (by rfl) T.f_range (pa_cons (pe_callB call_zLen (by rfl) T.f_len bt_len (pa_cons (pv 1) pa_nil)) pa_nil)) (pg_name (i := 2) nd rfl (Or.inl rfl)) (pss_cons (ps_if (PW.pt (pw_or (pt_not (pt_val (pe_callB call_zIsi (by rfl) T.f_isinstance bt_isinstance (pa_cons (pe_ix (ix_z hu) (pv 0) (pv 2) (fun _ _ => rfl)) (pa_cons (pe_bltn (by rfl) T.f_tuple bt_tuple rfl) pa_nil))))) (pw_or1 (pt_cmpR (op_zNe hu) (pe_callB call_zLen (by rfl) T.f_len bt_len (pa_cons (pe_ix (ix_z hu) (pv 0) (pv 2) (fun _ _ => rfl)) pa_nil)) (pe_callB call_zLen (by rfl) T.f_len bt_len (pa_cons (pe_ix (ix_z hu) (pv 1) (pv 2) (fun _ _ => rfl)) pa_nil)) (nomark _))))) (pss_one (ps_ret pe_bl)) pss_nil)
  (pss_one (ps_for (passes_of rfl) rfl (pi_range1 (by rfl) T.f_range (pa_cons (pe_callB call_zLen (by rfl) T.f_len bt_len (pa_cons (pe_ix (ix_z hu) (pv 1) (pv 2) (fun _ _ => rfl)) pa_nil)) pa_nil)) (pg_name (i := 3) nd rfl (Or.inl rfl)) (pss_cons (ps_set (i := 4) nd rfl (Or.inl rfl) (pe_ix (ix_z hu) (pe_ix (ix_z hu) (pv 0) (pv 2) (fun _ _ => rfl)) (pv 3) (fun _ _ => rfl)))
  (pss_cons (ps_if (PW.pt (pw_or (pt_not (pt_val (pe_callB call_zIsi (by rfl) T.f_isinstance bt_isinstance (pa_cons (pv 4) (pa_cons (pe_bltn (by rfl) T.f_tuple bt_tuple rfl) pa_nil))))) (pw_or1 (pt_cmpR (op_zNe hu) (pe_callB call_zLen (by rfl) T.f_len bt_len (pa_cons (pv 4) pa_nil)) (pe_callB call_zLen (by rfl) T.f_len bt_len (pa_cons (pe_ix (ix_z hu) (pe_ix (ix_z hu) (pv 1) (pv 2) (fun _ _ => rfl)) (pv 3) (fun _ _ => rfl)) pa_nil)) (nomark _))))) (pss_one (ps_ret pe_bl)) pss_nil)
  (pss_one (ps_for (passes_of rfl) rfl (pi_range1 (by rfl) T.f_range (pa_cons (pe_callB call_zLen (by rfl) T.f_len bt_len (pa_cons (pv 4) pa_nil)) pa_nil)) (pg_name (i := 5) nd rfl (Or.inl rfl)) (pss_one (ps_if (pt_not (pt_val (pe_callZ D__law_same_option (hr.mono (by omega)) tk (pa_cons (pe_ix (ix_z hu) (pv 4) (pv 5) (fun _ _ => rfl)) (pa_cons (pe_ix (ix_z hu) (pe_ix (ix_z hu) (pe_ix (ix_z hu) (pv 1) (pv 2) (fun _ _ => rfl)) (pv 3) (fun _ _ => rfl)) (pv 5) (fun _ _ => rfl)) pa_nil))))) (pss_one (ps_ret pe_bl)) pss_nil))))))))))
  (pss_one (ps_ret pe_bl))))
def t__law_same_machine (w : World) (K : PySem.W.Frag) (W : WX) : TS :=
  (tSeq (tIfS (tOr (tNot (tB (tCB (zIsi K) (tCons (tVar 0) (tCons (tC (.ref (He.ga K (PySem.Str.ofString "TwoTape")))) tNil))))) (tOr (tNot (tB (tCB (zIsi K) (tCons (tFld K (tVar 0) (PySem.Str.ofString "letters")) (tCons (tC (.ty "str")) tNil))))) (tTest (tOp (zNe K) (tFld K (tVar 0) (PySem.Str.ofString "letters")) (tVar 1))))) (tRet (tC (.bl false))) tNext)
  (tSeq (tIfS (tOr (tNot (tB (tCallS (spz K (F__law_whole K)) (WE W) (tCons (tFld K (tVar 0) (PySem.Str.ofString "second_symbols")) tNil)))) (tTest (tOp (zNe K) (tFld K (tVar 0) (PySem.Str.ofString "second_symbols")) (tVar 2)))) (tRet (tC (.bl false))) tNext)
  (tRet (tCallS (spz K (F__law_same_table K)) (WE W) (tCons (tFld K (tVar 0) (PySem.Str.ofString "table")) (tCons (tVar 3) tNil))))))
theorem ps__law_same_machine (T : Tx w K mg) (D__law_same_table : Df P w K mg base "_law_same_table" ["told", "rows"] 3 (spz K (F__law_same_table K))) (D__law_whole : Df P w K mg base "_law_whole" ["value"] 1 (spz K (F__law_whole K))) {f : Addr} {cdv : Value} {A : Around} {outer : List Env} {s : Shared} {H : Hp} {E : XK} (hr : Room 3 (A.deeper (envOfC "_law_same_machine" (defScope s__law_same_machine) s.heap.objs.size f cdv))) :
    PSs (cxOf (L2.CX P w) P w K mg base N__law_same_machine "_law_same_machine" (defScope s__law_same_machine) f cdv A outer s H E) (defBody s__law_same_machine) (t__law_same_machine w K (fun cls d _ H' => E cls d H')) := by
  have nd := sc__law_same_machine.nd
  have hu := hr.units
  have tk : Takes (cxOf (L2.CX P w) P w K mg base N__law_same_machine "_law_same_machine" (defScope s__law_same_machine) f cdv A outer s H E) (fun cls d _ H' => E cls d H') := takes_of rfl rfl rfl rfl
  exact (pss_cons (ps_if (PW.pt (pw_or (pt_not (pt_val (pe_callB call_zIsi (by rfl) T.f_isinstance bt_isinstance (pa_cons (pv 0) (pa_cons (pe_glob (by rfl) T.g_TwoTape rfl) pa_nil))))) (pw_or (pt_not (pt_val (pe_callB call_zIsi (by rfl) T.f_isinstance bt_isinstance (pa_cons (pe_fld (pv 0) rfl) (pa_cons (pe_bltn (by rfl) T.f_str bt_str rfl) pa_nil))))) (pw_or1 (pt_cmpR (op_zNe hu) (pe_fld (pv 0) rfl) (pv 1) (nomark _)))))) (pss_one (ps_ret pe_bl)) pss_nil)
  (pss_cons (ps_if (PW.pt (pw_or (pt_not (pt_val (pe_callZ D__law_whole (hr.mono (by omega)) tk (pa_cons (pe_fld (pv 0) rfl) pa_nil)))) (pw_or1 (pt_cmpR (op_zNe hu) (pe_fld (pv 0) rfl) (pv 2) (nomark _))))) (pss_one (ps_ret pe_bl)) pss_nil)
  (pss_one (ps_ret (pe_callZ D__law_same_table (hr.mono (by omega)) tk (pa_cons (pe_fld (pv 0) rfl) (pa_cons (pv 3) pa_nil)))))))
def t_play_two (w : World) (K : PySem.W.Frag) (W : WX) : TS :=
  (tSeq (tAsg tDNewK (gName 3))
  (tSeq (tFor (iEnumZ K (tCons (tVar 1) tNil)) (gTup K 2 (gCons (gName 4) (gCons (gName 5) gNil))) (tSeq (tIfS (tTest (tOp (zIn K true) (tVar 5) (tFld K (tVar 0) (PySem.Str.ofString "letters")))) (tRaise (He.ga K (PySem.Str.ofString "BadText")) (spX1 (He.ga K (PySem.Str.ofString "BadText")) (PySem.Str.ofString "index")) (tCons (tVar 4) tNil) W) tNext)
  (tAsg (tOp (zAdd K) (tBM K "str" rIndexT (tFld K (tVar 0) (PySem.Str.ofString "letters")) (tCons (tVar 5) tNil)) (tC (.int 1))) (gSub (tVar 3) (tVar 4) zSet))))
  (tSeq (tAsg tDNewK (gName 6))
  (tSeq (tAsg (tC (.int 0)) (gName 7))
  (tSeq (tAsg (tC (.int 0)) (gName 8))
  (tSeq (tAsg (tC (.int 0)) (gName 9))
  (tSeq (tAsg (tC (.int 0)) (gName 10))
  (tWhile (tB (tC (.bl true))) (tSeq (tAsg (tOp (zIx K) (tOp (zIx K) (tOp (zIx K) (tFld K (tVar 0) (PySem.Str.ofString "table")) (tVar 9)) (tDGet2 (tVar 3) (tVar 7) (tC (.int 0)))) (tDGet2 (tVar 6) (tVar 8) (tC (.int 0)))) (gName 11))
  (tSeq (tIfS (tNot (tB (tCB (zIsi K) (tCons (tVar 11) (tCons (tC (.ty "tuple")) tNil))))) (tRet (tTup (tCons (tVar 10) (tCons (tVar 11) tNil)))) tNext)
  (tSeq (tIfS (tTest (tOp (zEq K) (tVar 10) (tVar 2))) (tRet (tTup (tCons (tVar 10) (tCons (tC .non) tNil)))) tNext)
  (tSeq (tAsg (tOp (zIx K) (tVar 11) (tC (.int 1))) (gSub (tVar 6) (tVar 8) zSet))
  (tSeq (tAsg (tOp (zAdd K) (tVar 7) (tOp (zIx K) (tVar 11) (tC (.int 0)))) (gName 7))
  (tSeq (tAsg (tOp (zAdd K) (tVar 8) (tOp (zIx K) (tVar 11) (tC (.int 2)))) (gName 8))
  (tSeq (tAsg (tOp (zIx K) (tVar 11) (tC (.int 3))) (gName 9))
  (tAsg (tOp (zAdd K) (tVar 10) (tC (.int 1))) (gName 10)))))))))))))))))
theorem ps_play_two (T : Tx w K mg) (D_BadText : Dx P w K mg base "BadText" (He.ga K "BadText") ["self", "index"] (spX1 (He.ga K "BadText") "index")) {f : Addr} {cdv : Value} {A : Around} {outer : List Env} {s : Shared} {H : Hp} {E : XK} (hr : Room 2 (A.deeper (envOfC "play_two" (defScope s_play_two) s.heap.objs.size f cdv))) :
    PSs (cxOf (L2.CX P w) P w K mg base N_play_two "play_two" (defScope s_play_two) f cdv A outer s H E) (defBody s_play_two) (t_play_two w K (fun cls d _ H' => E cls d H')) := by
  have nd := sc_play_two.nd
  have hu := hr.units
  have tk : Takes (cxOf (L2.CX P w) P w K mg base N_play_two "play_two" (defScope s_play_two) f cdv A outer s H E) (fun cls d _ H' => E cls d H') := takes_of rfl rfl rfl rfl
  exact (pss_cons (ps_set (i := 3) nd rfl (Or.inl rfl) pe_dnewK)
  (pss_cons (ps_for (passes_of rfl) rfl (pi_enumZ (by rfl) T.f_enumerate (pa_cons (pv 1) pa_nil)) (pg_tup (by rfl) (pgs_cons (pg_name (i := 4) nd rfl (Or.inl rfl)) (pgs_cons (pg_name (i := 5) nd rfl (Or.inl rfl)) pgs_nil))) (pss_cons (ps_if (pt_cmpR (op_zNotIn hu) (pv 5) (pe_fld (pv 0) rfl) (by rfl)) (pss_one (ps_raiseZ D_BadText (by rfl) (hr.mono (by omega)) tk (pa_cons (pv 4) pa_nil))) pss_nil)
  (pss_one (ps_asg (pe_op op_zAdd (pe_bm PySem.F.plainAttrs_str PySem.F.slot_str_index PySem.F.type_str_index mt_zIndexT (pe_fld (pv 0) rfl) (pa_cons (pv 5) pa_nil)) pe_int) (pg_sub (pv 3) (pv 4) (set_z hu))))))
  (pss_cons (ps_set (i := 6) nd rfl (Or.inl rfl) pe_dnewK)
  (pss_cons (ps_set (i := 7) nd rfl (Or.inl rfl) pe_int)
  (pss_cons (ps_set (i := 8) nd rfl (Or.inl rfl) pe_int)
  (pss_cons (ps_set (i := 9) nd rfl (Or.inl rfl) pe_int)
  (pss_cons (ps_set (i := 10) nd rfl (Or.inl rfl) pe_int)
  (pss_one (ps_while (passes_of rfl) (pt_val pe_bl) (pss_cons (ps_set (i := 11) nd rfl (Or.inl rfl) (pe_ix (ix_z hu) (pe_ix (ix_z hu) (pe_ix (ix_z hu) (pe_fld (pv 0) rfl) (pv 9) (fun _ _ => rfl)) (pe_dget2 (hu1 hu) (pv 3) (pv 7) pe_int ⟨by rfl, by rfl, by rfl, by rfl⟩) (fun _ _ => rfl)) (pe_dget2 (hu1 hu) (pv 6) (pv 8) pe_int ⟨by rfl, by rfl, by rfl, by rfl⟩) (fun _ _ => rfl)))
  (pss_cons (ps_if (pt_not (pt_val (pe_callB call_zIsi (by rfl) T.f_isinstance bt_isinstance (pa_cons (pv 11) (pa_cons (pe_bltn (by rfl) T.f_tuple bt_tuple rfl) pa_nil))))) (pss_one (ps_ret (pe_tup (pa_cons (pv 10) (pa_cons (pv 11) pa_nil))))) pss_nil)
  (pss_cons (ps_if (pt_cmpR (op_zEq hu) (pv 10) (pv 2) (nomark _)) (pss_one (ps_ret (pe_tup (pa_cons (pv 10) (pa_cons pe_non pa_nil))))) pss_nil)
  (pss_cons (ps_asg (pe_ix (ix_z hu) (pv 11) pe_int (fun _ _ => rfl)) (pg_sub (pv 6) (pv 8) (set_z hu)))
  (pss_cons (ps_set (i := 7) nd rfl (Or.inl rfl) (pe_op op_zAdd (pv 7) (pe_ix (ix_z hu) (pv 11) pe_int (fun _ _ => rfl))))
  (pss_cons (ps_set (i := 8) nd rfl (Or.inl rfl) (pe_op op_zAdd (pv 8) (pe_ix (ix_z hu) (pv 11) pe_int (fun _ _ => rfl))))
  (pss_cons (ps_set (i := 9) nd rfl (Or.inl rfl) (pe_ix (ix_z hu) (pv 11) pe_int (fun _ _ => rfl)))
  (pss_one (ps_set (i := 10) nd rfl (Or.inl rfl) (pe_op op_zAdd (pv 10) pe_int)))))))))))))))))))
def t__law_bad_index (w : World) (K : PySem.W.Frag) (W : WX) : TS :=
  (tSeq (tTryAs K (.ref (He.ga K (PySem.Str.ofString "ClockError"))) 3 (fun a cls d => (tSeq (tIfS (tAnd (tB (tCB (rIsG K a cls d) (tCons (tVar 3) (tCons (tC (.ref (He.ga K (PySem.Str.ofString "BadText")))) tNil)))) (tAnd (tNot (tB (tCB (rIsG K a cls d) (tCons (tVar 3) (tCons (tC (.ref (He.ga K (PySem.Str.ofString "BadTable")))) tNil))))) (tNot (tB (tCB (rIsG K a cls d) (tCons (tVar 3) (tCons (tC (.ref (He.ga K (PySem.Str.ofString "BadLetters")))) tNil))))))) (tRet (tXg K a cls d (PySem.Str.ofString "index") (tVar 3))) tNext)
  (tRet (tUn (rU fun i => .int (-i)) (tC (.int 1)))))) W (fun W1 => (tDrop (tCallS (spz K (F_play_two K)) (WE W1) (tCons (tVar 0) (tCons (tVar 1) (tCons (tVar 2) tNil)))))))
  (tRet (tC .non)))
theorem ps__law_bad_index (T : Tx w K mg) (D_play_two : Df P w K mg base "play_two" ["machine", "text", "most"] 3 (spz K (F_play_two K))) {f : Addr} {cdv : Value} {A : Around} {outer : List Env} {s : Shared} {H : Hp} {E : XK} (hr : Room 3 (A.deeper (envOfC "_law_bad_index" (defScope s__law_bad_index) s.heap.objs.size f cdv))) :
    PSs (cxOf (L2.CX P w) P w K mg base N__law_bad_index "_law_bad_index" (defScope s__law_bad_index) f cdv A outer s H E) (defBody s__law_bad_index) (t__law_bad_index w K (fun cls d _ H' => E cls d H')) := by
  have nd := sc__law_bad_index.nd
  have hu := hr.units
  have tk : Takes (cxOf (L2.CX P w) P w K mg base N__law_bad_index "_law_bad_index" (defScope s__law_bad_index) f cdv A outer s H E) (fun cls d _ H' => E cls d H') := takes_of rfl rfl rfl rfl
  exact (pss_cons (ps_try_as (i := 3) (tb := fun W1 => (tDrop (tCallS (spz K (F_play_two K)) (WE W1) (tCons (tVar 0) (tCons (tVar 1) (tCons (tVar 2) tNil)))))) (ts := fun a cls d => (tSeq (tIfS (tAnd (tB (tCB (rIsG K a cls d) (tCons (tVar 3) (tCons (tC (.ref (He.ga K (PySem.Str.ofString "BadText")))) tNil)))) (tAnd (tNot (tB (tCB (rIsG K a cls d) (tCons (tVar 3) (tCons (tC (.ref (He.ga K (PySem.Str.ofString "BadTable")))) tNil))))) (tNot (tB (tCB (rIsG K a cls d) (tCons (tVar 3) (tCons (tC (.ref (He.ga K (PySem.Str.ofString "BadLetters")))) tNil))))))) (tRet (tXg K a cls d (PySem.Str.ofString "index") (tVar 3))) tNext)
  (tRet (tUn (rU fun i => .int (-i)) (tC (.int 1)))))) rfl rfl nd rfl rfl ⟨by rfl, by decide, .inl T.g_ClockError⟩ tk (fun W1 pn xe tk1 po1 => (pss_one (ps_expr (pe_callZ D_play_two (hr.mono (by omega)) tk1 (pa_cons (pv 0) (pa_cons (pv 1) (pa_cons (pv 2) pa_nil))))))) (fun a oe cls d pn hz hf => (pss_cons (ps_if (PW.pt (pw_and (pt_val (pe_callB (call_isG hz hf) (by rfl) T.f_isinstance bt_isinstance (pa_cons (pv 3) (pa_cons (pe_glob (by rfl) T.g_BadText rfl) pa_nil)))) (pw_and (pt_not (pt_val (pe_callB (call_isG hz hf) (by rfl) T.f_isinstance bt_isinstance (pa_cons (pv 3) (pa_cons (pe_glob (by rfl) T.g_BadTable rfl) pa_nil))))) (pw_and1 (pt_not (pt_val (pe_callB (call_isG hz hf) (by rfl) T.f_isinstance bt_isinstance (pa_cons (pv 3) (pa_cons (pe_glob (by rfl) T.g_BadLetters rfl) pa_nil))))))))) (pss_one (ps_ret (pe_xg hz hf (pv 3)))) pss_nil)
  (pss_one (ps_ret (pe_un un_neg pe_int))))))
  (pss_one (ps_ret pe_non)))
def t__law_refuses_texts (w : World) (K : PySem.W.Frag) (W : WX) : TS :=
  (tSeq (tAsg (tC (.str (tx [97, 98, 99, 100, 101, 102, 103, 104, 105, 106, 107, 108, 109, 110, 111, 112, 113, 114, 115, 116, 117, 118, 119, 120, 121, 122, 65, 66, 90, 48, 49, 57, 32, 126, 95, 46, 44, 45, 43, 40]))) (gName 5))
  (tSeq (tFor (iRng1 (tCons (tC (.int 2)) tNil)) (gName 6) (tSeq (tAsg (tVar 2) (gName 7))
  (tSeq (tFor (iRng1 (tCons (tOp (zAdd K) (tVar 6) (tC (.int 1))) tNil)) (gName 8) (tSeq (tAsg (tOp zMod (tCB zInt (tCons (tOp (zIx K) (tVar 3) (tOp (zAdd K) (tOp zMul (tC (.int 2)) (tVar 8)) (tC (.int 1)))) tNil)) (tOp (zAdd K) (tCB (zLen K) (tCons (tVar 7) tNil)) (tC (.int 1)))) (gName 9))
  (tAsg (tOp (zAdd K) (tOp (zAdd K) (tSl (zSl K) (tVar 7) tNoPart (tPart (tVar 9))) (tOp (zIx K) (tVar 5) (tOp (zIx K) (tVar 3) (tOp zMul (tC (.int 2)) (tVar 8))))) (tSl (zSl K) (tVar 7) (tPart (tVar 9)) tNoPart)) (gName 7))))
  (tSeq (tAsg (tC .non) (gName 10))
  (tSeq (tFor (iRng1 (tCons (tCB (zLen K) (tCons (tVar 7) tNil)) tNil)) (gName 11) (tIfS (tAnd (tTest (tOp zIsN (tVar 10) (tC .non))) (tTest (tOp (zIn K true) (tOp (zIx K) (tVar 7) (tVar 11)) (tVar 1)))) (tAsg (tVar 11) (gName 10)) tNext))
  (tSeq (tAsg (tCallS (spz K (F__law_bad_index K)) (WE W) (tCons (tVar 0) (tCons (tVar 7) (tCons (tVar 4) tNil)))) (gName 12))
  (tSeq (tIfS (tAnd (tTest (tOp zIsN (tVar 10) (tC .non))) (tTest (tOp zNotN (tVar 12) (tC .non)))) (tRet (tC (.bl false))) tNext)
  (tIfS (tAnd (tTest (tOp zNotN (tVar 10) (tC .non))) (tOr (tNot (tB (tCallS (spz K (F__law_whole K)) (WE W) (tCons (tVar 12) tNil)))) (tTest (tOp (zNe K) (tVar 12) (tVar 10))))) (tRet (tC (.bl false))) tNext))))))))
  (tRet (tC (.bl true)))))
theorem ps__law_refuses_texts (T : Tx w K mg) (D__law_bad_index : Df P w K mg base "_law_bad_index" ["machine", "text", "bound"] 4 (spz K (F__law_bad_index K))) (D__law_whole : Df P w K mg base "_law_whole" ["value"] 1 (spz K (F__law_whole K))) {f : Addr} {cdv : Value} {A : Around} {outer : List Env} {s : Shared} {H : Hp} {E : XK} (hr : Room 4 (A.deeper (envOfC "_law_refuses_texts" (defScope s__law_refuses_texts) s.heap.objs.size f cdv))) :
    PSs (cxOf (L2.CX P w) P w K mg base N__law_refuses_texts "_law_refuses_texts" (defScope s__law_refuses_texts) f cdv A outer s H E) (defBody s__law_refuses_texts) (t__law_refuses_texts w K (fun cls d _ H' => E cls d H')) := by
  have nd := sc__law_refuses_texts.nd
  have hu := hr.units
  have tk : Takes (cxOf (L2.CX P w) P w K mg base N__law_refuses_texts "_law_refuses_texts" (defScope s__law_refuses_texts) f cdv A outer s H E) (fun cls d _ H' => E cls d H') := takes_of rfl rfl rfl rfl
  exact (pss_cons (ps_set (i := 5) nd rfl (Or.inl rfl) pe_str)
  (pss_cons (ps_for (passes_of rfl) rfl (pi_range1 (by rfl) T.f_range (pa_cons pe_int pa_nil)) (pg_name (i := 6) nd rfl (Or.inl rfl)) (pss_cons (ps_set (i := 7) nd rfl (Or.inl rfl) (pv 2))
  (pss_cons (ps_for (passes_of rfl) rfl (pi_range1 (by rfl) T.f_range (pa_cons (pe_op op_zAdd (pv 6) pe_int) pa_nil)) (pg_name (i := 8) nd rfl (Or.inl rfl)) (pss_cons (ps_set (i := 9) nd rfl (Or.inl rfl) (pe_op op_zMod (pe_callTy call_zInt (by rfl) T.f_int bt_int (pa_cons (pe_ix (ix_z hu) (pv 3) (pe_op op_zAdd (pe_op op_zMul pe_int (pv 8)) pe_int) (fun _ _ => rfl)) pa_nil)) (pe_op op_zAdd (pe_callB call_zLen (by rfl) T.f_len bt_len (pa_cons (pv 7) pa_nil)) pe_int)))
  (pss_one (ps_set (i := 7) nd rfl (Or.inl rfl) (pe_op op_zAdd (pe_op op_zAdd (pe_slice sl_z (pv 7) po_none (po_some (pv 9))) (pe_ix (ix_z hu) (pv 5) (pe_ix (ix_z hu) (pv 3) (pe_op op_zMul pe_int (pv 8)) (fun _ _ => rfl)) (fun _ _ => rfl))) (pe_slice sl_z (pv 7) (po_some (pv 9)) po_none))))))
  (pss_cons (ps_set (i := 10) nd rfl (Or.inl rfl) pe_non)
  (pss_cons (ps_for (passes_of rfl) rfl (pi_range1 (by rfl) T.f_range (pa_cons (pe_callB call_zLen (by rfl) T.f_len bt_len (pa_cons (pv 7) pa_nil)) pa_nil)) (pg_name (i := 11) nd rfl (Or.inl rfl)) (pss_one (ps_if (PW.pt (pw_and (pt_cmpR op_zIsN (pv 10) pe_non (nomark _)) (pw_and1 (pt_cmpR (op_zNotIn hu) (pe_ix (ix_z hu) (pv 7) (pv 11) (fun _ _ => rfl)) (pv 1) (by rfl))))) (pss_one (ps_set (i := 10) nd rfl (Or.inl rfl) (pv 11))) pss_nil)))
  (pss_cons (ps_set (i := 12) nd rfl (Or.inl rfl) (pe_callZ D__law_bad_index (hr.mono (by omega)) tk (pa_cons (pv 0) (pa_cons (pv 7) (pa_cons (pv 4) pa_nil)))))
  (pss_cons (ps_if (PW.pt (pw_and (pt_cmpR op_zIsN (pv 10) pe_non (nomark _)) (pw_and1 (pt_cmpR op_zNotN (pv 12) pe_non (nomark _))))) (pss_one (ps_ret pe_bl)) pss_nil)
  (pss_one (ps_if (PW.pt (pw_and (pt_cmpR op_zNotN (pv 10) pe_non (nomark _)) (pw_and1 (PW.pt (pw_or (pt_not (pt_val (pe_callZ D__law_whole (hr.mono (by omega)) tk (pa_cons (pv 12) pa_nil)))) (pw_or1 (pt_cmpR (op_zNe hu) (pv 12) (pv 10) (nomark _)))))))) (pss_one (ps_ret pe_bl)) pss_nil)))))))))
  (pss_one (ps_ret pe_bl))))
def t__law_wrong_letters (w : World) (K : PySem.W.Frag) (W : WX) : TS :=
  (tSeq (tAsg (tOp (zIx K) (tLst (tCons (tC (.str (tx []))) (tCons (tC (.str (tx [98, 97]))) (tCons (tC (.str (tx [97, 97]))) (tCons (tC (.str (tx [97, 98, 99, 100]))) (tCons (tC (.str (tx [65]))) (tCons (tC (.str (tx [97, 49]))) (tCons (tC (.str (tx [97, 32, 98]))) (tCons (tC (.str (tx [99, 97, 98]))) (tCons (tC (.str (tx [97, 97, 98]))) (tCons (tC (.str (tx [126]))) (tCons (tC (.str (tx [122, 122]))) (tCons (tC (.str (tx [98, 99, 97]))) tNil))))))))))))) (tVar 3)) (gName 4))
  (tSeq (tFor (iList K (tLst (tCons (tVar 2) (tCons (tLst tNil) (tCons (tLst (tCons (tLst tNil) tNil)) tNil))))) (gName 5) (tSeq (tAsg (tCallS (spz K (F__law_told K)) (WE W) (tCons (tVar 4) (tCons (tVar 1) (tCons (tCallS (spm K (F__law_handed K)) (WE W) (tCons (tVar 5) (tCons (tOp zMod (tVar 3) (tC (.int 4))) tNil))) tNil)))) (gName 6))
  (tIfS (tOr (tTest (tOp (zNe K) (tOp (zIx K) (tVar 6) (tC (.int 0))) (tC (.str (tx [108, 101, 116, 116, 101, 114, 115]))))) (tOr (tNot (tB (tCB (zIsi K) (tCons (tOp (zIx K) (tVar 6) (tC (.int 1))) (tCons (tC (.ty "str")) tNil))))) (tTest (tOp (zNe K) (tOp (zIx K) (tVar 6) (tC (.int 1))) (tVar 4))))) (tRet (tC (.bl false))) tNext)))
  (tSeq (tFor (iList K (tLst (tCons (tLst tNil) (tCons (tTup tNil) tNil)))) (gName 5) (tSeq (tAsg (tCallS (spz K (F__law_told K)) (WE W) (tCons (tVar 0) (tCons (tVar 1) (tCons (tVar 5) tNil)))) (gName 6))
  (tIfS (tOr (tTest (tOp (zNe K) (tOp (zIx K) (tVar 6) (tC (.int 0))) (tC (.str (tx [115, 116, 97, 116, 101]))))) (tOr (tNot (tB (tCallS (spz K (F__law_whole K)) (WE W) (tCons (tOp (zIx K) (tVar 6) (tC (.int 1))) tNil)))) (tTest (tOp (zNe K) (tOp (zIx K) (tVar 6) (tC (.int 1))) (tC (.int 0)))))) (tRet (tC (.bl false))) tNext)))
  (tRet (tC (.bl true))))))
theorem ps__law_wrong_letters (T : Tx w K mg) (D__law_handed : Df P w K mg base "_law_handed" ["rows", "style"] 1 (spm K (F__law_handed K))) (D__law_told : Df P w K mg base "_law_told" ["letters", "second", "handed"] 10 (spz K (F__law_told K))) (D__law_whole : Df P w K mg base "_law_whole" ["value"] 1 (spz K (F__law_whole K))) {f : Addr} {cdv : Value} {A : Around} {outer : List Env} {s : Shared} {H : Hp} {E : XK} (hr : Room 10 (A.deeper (envOfC "_law_wrong_letters" (defScope s__law_wrong_letters) s.heap.objs.size f cdv))) :
    PSs (cxOf (L2.CX P w) P w K mg base N__law_wrong_letters "_law_wrong_letters" (defScope s__law_wrong_letters) f cdv A outer s H E) (defBody s__law_wrong_letters) (t__law_wrong_letters w K (fun cls d _ H' => E cls d H')) := by
  have nd := sc__law_wrong_letters.nd
  have hu := hr.units
  have tk : Takes (cxOf (L2.CX P w) P w K mg base N__law_wrong_letters "_law_wrong_letters" (defScope s__law_wrong_letters) f cdv A outer s H E) (fun cls d _ H' => E cls d H') := takes_of rfl rfl rfl rfl
  exact (pss_cons (ps_set (i := 4) nd rfl (Or.inl rfl) (pe_ix (ix_z hu) (pe_lst (pa_cons pe_str (pa_cons pe_str (pa_cons pe_str (pa_cons pe_str (pa_cons pe_str (pa_cons pe_str (pa_cons pe_str (pa_cons pe_str (pa_cons pe_str (pa_cons pe_str (pa_cons pe_str (pa_cons pe_str pa_nil))))))))))))) (pv 3) (fun _ _ => rfl)))
  (pss_cons (ps_for (passes_of rfl) rfl (pi_list (pe_lst (pa_cons (pv 2) (pa_cons (pe_lst pa_nil) (pa_cons (pe_lst (pa_cons (pe_lst pa_nil) pa_nil)) pa_nil))))) (pg_name (i := 5) nd rfl (Or.inl rfl)) (pss_cons (ps_set (i := 6) nd rfl (Or.inl rfl) (pe_callZ D__law_told (hr.mono (by omega)) tk (pa_cons (pv 4) (pa_cons (pv 1) (pa_cons (pe_callZ D__law_handed (hr.mono (by omega)) tk (pa_cons (pv 5) (pa_cons (pe_op op_zMod (pv 3) pe_int) pa_nil))) pa_nil)))))
  (pss_one (ps_if (PW.pt (pw_or (pt_cmpR (op_zNe hu) (pe_ix (ix_z hu) (pv 6) pe_int (fun _ _ => rfl)) pe_str (nomark _)) (pw_or (pt_not (pt_val (pe_callB call_zIsi (by rfl) T.f_isinstance bt_isinstance (pa_cons (pe_ix (ix_z hu) (pv 6) pe_int (fun _ _ => rfl)) (pa_cons (pe_bltn (by rfl) T.f_str bt_str rfl) pa_nil))))) (pw_or1 (pt_cmpR (op_zNe hu) (pe_ix (ix_z hu) (pv 6) pe_int (fun _ _ => rfl)) (pv 4) (nomark _)))))) (pss_one (ps_ret pe_bl)) pss_nil))))
  (pss_cons (ps_for (passes_of rfl) rfl (pi_list (pe_lst (pa_cons (pe_lst pa_nil) (pa_cons (pe_tup pa_nil) pa_nil)))) (pg_name (i := 5) nd rfl (Or.inl rfl)) (pss_cons (ps_set (i := 6) nd rfl (Or.inl rfl) (pe_callZ D__law_told (hr.mono (by omega)) tk (pa_cons (pv 0) (pa_cons (pv 1) (pa_cons (pv 5) pa_nil)))))
  (pss_one (ps_if (PW.pt (pw_or (pt_cmpR (op_zNe hu) (pe_ix (ix_z hu) (pv 6) pe_int (fun _ _ => rfl)) pe_str (nomark _)) (pw_or (pt_not (pt_val (pe_callZ D__law_whole (hr.mono (by omega)) tk (pa_cons (pe_ix (ix_z hu) (pv 6) pe_int (fun _ _ => rfl)) pa_nil)))) (pw_or1 (pt_cmpR (op_zNe hu) (pe_ix (ix_z hu) (pv 6) pe_int (fun _ _ => rfl)) pe_int (nomark _)))))) (pss_one (ps_ret pe_bl)) pss_nil))))
  (pss_one (ps_ret pe_bl)))))
def t__law_walk (w : World) (K : PySem.W.Frag) (W : WX) : TS :=
  (tSeq (tAsg tDNewK (gName 3))
  (tSeq (tAsg (tC (.int 0)) (gName 4))
  (tSeq (tAsg (tC (.int 0)) (gName 5))
  (tSeq (tAsg (tC (.int 0)) (gName 6))
  (tSeq (tFor (iRng1 (tCons (tOp (zAdd K) (tVar 2) (tC (.int 1))) tNil)) (gName 7) (tSeq (tAsg (tC (.int 0)) (gName 8))
  (tSeq (tIfS (tAnd (tTest (tOp zLe (tC (.int 0)) (tVar 4))) (tTest (tOp zLt (tVar 4) (tCB (zLen K) (tCons (tVar 1) tNil))))) (tAsg (tOp (zIx K) (tVar 1) (tVar 4)) (gName 8)) tNext)
  (tSeq (tAsg (tOp (zIx K) (tOp (zIx K) (tOp (zIx K) (tVar 0) (tVar 6)) (tVar 8)) (tDGet2 (tVar 3) (tVar 5) (tC (.int 0)))) (gName 9))
  (tSeq (tIfS (tNot (tB (tCB (zIsi K) (tCons (tVar 9) (tCons (tC (.ty "tuple")) tNil))))) (tRet (tTup (tCons (tVar 7) (tCons (tVar 9) tNil)))) tNext)
  (tIfS (tTest (tOp zLt (tVar 7) (tVar 2))) (tSeq (tAsg (tOp (zIx K) (tVar 9) (tC (.int 1))) (gSub (tVar 3) (tVar 5) zSet))
  (tSeq (tAsg (tOp (zAdd K) (tVar 4) (tOp (zIx K) (tVar 9) (tC (.int 0)))) (gName 4))
  (tSeq (tAsg (tOp (zAdd K) (tVar 5) (tOp (zIx K) (tVar 9) (tC (.int 2)))) (gName 5))
  (tAsg (tOp (zIx K) (tVar 9) (tC (.int 3))) (gName 6))))) tNext))))))
  (tRet (tTup (tCons (tVar 2) (tCons (tC .non) tNil)))))))))
theorem ps__law_walk (T : Tx w K mg)  {f : Addr} {cdv : Value} {A : Around} {outer : List Env} {s : Shared} {H : Hp} {E : XK} (hr : Room 0 (A.deeper (envOfC "_law_walk" (defScope s__law_walk) s.heap.objs.size f cdv))) :
    PSs (cxOf (L2.CX P w) P w K mg base N__law_walk "_law_walk" (defScope s__law_walk) f cdv A outer s H E) (defBody s__law_walk) (t__law_walk w K (fun cls d _ H' => E cls d H')) := by
  have nd := sc__law_walk.nd
  have hu := hr.units
  have tk : Takes (cxOf (L2.CX P w) P w K mg base N__law_walk "_law_walk" (defScope s__law_walk) f cdv A outer s H E) (fun cls d _ H' => E cls d H') := takes_of rfl rfl rfl rfl
  exact (pss_cons (ps_set (i := 3) nd rfl (Or.inl rfl) pe_dnewK)
  (pss_cons (ps_set (i := 4) nd rfl (Or.inl rfl) pe_int)
  (pss_cons (ps_set (i := 5) nd rfl (Or.inl rfl) pe_int)
  (pss_cons (ps_set (i := 6) nd rfl (Or.inl rfl) pe_int)
  (pss_cons (ps_for (passes_of rfl) rfl (pi_range1 (by rfl) T.f_range (pa_cons (pe_op op_zAdd (pv 2) pe_int) pa_nil)) (pg_name (i := 7) nd rfl (Or.inl rfl)) (pss_cons (ps_set (i := 8) nd rfl (Or.inl rfl) pe_int)
  (pss_cons (ps_if (PW.pt (pw_and (pt_cmpR op_zLe pe_int (pv 4) (nomark _)) (pw_and1 (pt_cmpR op_zLt (pv 4) (pe_callB call_zLen (by rfl) T.f_len bt_len (pa_cons (pv 1) pa_nil)) (nomark _))))) (pss_one (ps_set (i := 8) nd rfl (Or.inl rfl) (pe_ix (ix_z hu) (pv 1) (pv 4) (fun _ _ => rfl)))) pss_nil)
  (pss_cons (ps_set (i := 9) nd rfl (Or.inl rfl) (pe_ix (ix_z hu) (pe_ix (ix_z hu) (pe_ix (ix_z hu) (pv 0) (pv 6) (fun _ _ => rfl)) (pv 8) (fun _ _ => rfl)) (pe_dget2 (hu1 hu) (pv 3) (pv 5) pe_int ⟨by rfl, by rfl, by rfl, by rfl⟩) (fun _ _ => rfl)))
  (pss_cons (ps_if (pt_not (pt_val (pe_callB call_zIsi (by rfl) T.f_isinstance bt_isinstance (pa_cons (pv 9) (pa_cons (pe_bltn (by rfl) T.f_tuple bt_tuple rfl) pa_nil))))) (pss_one (ps_ret (pe_tup (pa_cons (pv 7) (pa_cons (pv 9) pa_nil))))) pss_nil)
  (pss_one (ps_if (pt_cmpR op_zLt (pv 7) (pv 2) (nomark _)) (pss_cons (ps_asg (pe_ix (ix_z hu) (pv 9) pe_int (fun _ _ => rfl)) (pg_sub (pv 3) (pv 5) (set_z hu)))
  (pss_cons (ps_set (i := 4) nd rfl (Or.inl rfl) (pe_op op_zAdd (pv 4) (pe_ix (ix_z hu) (pv 9) pe_int (fun _ _ => rfl))))
  (pss_cons (ps_set (i := 5) nd rfl (Or.inl rfl) (pe_op op_zAdd (pv 5) (pe_ix (ix_z hu) (pv 9) pe_int (fun _ _ => rfl))))
  (pss_one (ps_set (i := 6) nd rfl (Or.inl rfl) (pe_ix (ix_z hu) (pv 9) pe_int (fun _ _ => rfl))))))) pss_nil)))))))
  (pss_one (ps_ret (pe_tup (pa_cons (pv 2) (pa_cons pe_non pa_nil))))))))))
def t__law_same_play (w : World) (K : PySem.W.Frag) (W : WX) : TS :=
  (tSeq (tIfS (tOr (tNot (tB (tCB (zIsi K) (tCons (tVar 0) (tCons (tC (.ty "tuple")) tNil))))) (tOr (tTest (tOp (zNe K) (tCB (zLen K) (tCons (tVar 0) tNil)) (tC (.int 2)))) (tOr (tNot (tB (tCallS (spz K (F__law_whole K)) (WE W) (tCons (tOp (zIx K) (tVar 0) (tC (.int 0))) tNil)))) (tTest (tOp (zNe K) (tOp (zIx K) (tVar 0) (tC (.int 0))) (tVar 1)))))) (tRet (tC (.bl false))) tNext)
  (tSeq (tIfS (tTest (tOp zIsN (tVar 2) (tC .non))) (tRet (tOp zIsN (tOp (zIx K) (tVar 0) (tC (.int 1))) (tC .non))) tNext)
  (tSeq (tIfS (tB (tVar 2)) (tRet (tOp zIsB (tOp (zIx K) (tVar 0) (tC (.int 1))) (tC (.bl true)))) tNext)
  (tRet (tOp zIsB (tOp (zIx K) (tVar 0) (tC (.int 1))) (tC (.bl false)))))))
theorem ps__law_same_play (T : Tx w K mg) (D__law_whole : Df P w K mg base "_law_whole" ["value"] 1 (spz K (F__law_whole K))) {f : Addr} {cdv : Value} {A : Around} {outer : List Env} {s : Shared} {H : Hp} {E : XK} (hr : Room 1 (A.deeper (envOfC "_law_same_play" (defScope s__law_same_play) s.heap.objs.size f cdv))) :
    PSs (cxOf (L2.CX P w) P w K mg base N__law_same_play "_law_same_play" (defScope s__law_same_play) f cdv A outer s H E) (defBody s__law_same_play) (t__law_same_play w K (fun cls d _ H' => E cls d H')) := by
  have nd := sc__law_same_play.nd
  have hu := hr.units
  have tk : Takes (cxOf (L2.CX P w) P w K mg base N__law_same_play "_law_same_play" (defScope s__law_same_play) f cdv A outer s H E) (fun cls d _ H' => E cls d H') := takes_of rfl rfl rfl rfl
  exact (pss_cons (ps_if (PW.pt (pw_or (pt_not (pt_val (pe_callB call_zIsi (by rfl) T.f_isinstance bt_isinstance (pa_cons (pv 0) (pa_cons (pe_bltn (by rfl) T.f_tuple bt_tuple rfl) pa_nil))))) (pw_or (pt_cmpR (op_zNe hu) (pe_callB call_zLen (by rfl) T.f_len bt_len (pa_cons (pv 0) pa_nil)) pe_int (nomark _)) (pw_or (pt_not (pt_val (pe_callZ D__law_whole (hr.mono (by omega)) tk (pa_cons (pe_ix (ix_z hu) (pv 0) pe_int (fun _ _ => rfl)) pa_nil)))) (pw_or1 (pt_cmpR (op_zNe hu) (pe_ix (ix_z hu) (pv 0) pe_int (fun _ _ => rfl)) (pv 1) (nomark _))))))) (pss_one (ps_ret pe_bl)) pss_nil)
  (pss_cons (ps_if (pt_cmpR op_zIsN (pv 2) pe_non (nomark _)) (pss_one (ps_ret (pe_cmpR op_zIsN (pe_ix (ix_z hu) (pv 0) pe_int (fun _ _ => rfl)) pe_non (nomark _)))) pss_nil)
  (pss_cons (ps_if (pt_val (pv 2)) (pss_one (ps_ret (pe_cmpR op_zIsB (pe_ix (ix_z hu) (pv 0) pe_int (fun _ _ => rfl)) pe_bl (nomark _)))) pss_nil)
  (pss_one (ps_ret (pe_cmpR op_zIsB (pe_ix (ix_z hu) (pv 0) pe_int (fun _ _ => rfl)) pe_bl (nomark _)))))))
def t__law_plays (w : World) (K : PySem.W.Frag) (W : WX) : TS :=
  (tSeq (tAsg (tCallS (spz K (F__law_walk K)) (WE W) (tCons (tVar 1) (tCons (tLc (iStr (tVar 3)) (gName 10) tYes (tOp (zAdd K) (tBM K "str" rIndexT (tVar 2) (tCons (tVar 10) tNil)) (tC (.int 1))) [10]) (tCons (tVar 4) tNil)))) (gName 6))
  (tSeq (tAsg (tLst (tCons (tVar 4) (tCons (tC (.int 0)) (tCons (tOp zMod (tCB zInt (tCons (tVar 5) tNil)) (tOp (zAdd K) (tVar 4) (tC (.int 1)))) (tCons (tOp (zIx K) (tVar 6) (tC (.int 0))) tNil))))) (gName 7))
  (tSeq (tIfS (tTest (tOp zGt (tOp (zIx K) (tVar 6) (tC (.int 0))) (tC (.int 0)))) (tDrop (tBM K "list" rAppend (tVar 7) (tCons (tOp zSub (tOp (zIx K) (tVar 6) (tC (.int 0))) (tC (.int 1))) tNil))) tNext)
  (tSeq (tFor (iList K (tVar 7)) (gName 8) (tSeq (tAsg (tCallS (spz K (F_play_two K)) (WE W) (tCons (tVar 0) (tCons (tVar 3) (tCons (tVar 8) tNil)))) (gName 9))
  (tIfS (tAnd (tTest (tOp zNotN (tOp (zIx K) (tVar 6) (tC (.int 1))) (tC .non))) (tTest (tOp zLe (tOp (zIx K) (tVar 6) (tC (.int 0))) (tVar 8)))) (tIfS (tNot (tB (tCallS (spz K (F__law_same_play K)) (WE W) (tCons (tVar 9) (tCons (tOp (zIx K) (tVar 6) (tC (.int 0))) (tCons (tOp (zIx K) (tVar 6) (tC (.int 1))) tNil)))))) (tRet (tC (.bl false))) tNext) (tIfS (tNot (tB (tCallS (spz K (F__law_same_play K)) (WE W) (tCons (tVar 9) (tCons (tVar 8) (tCons (tC .non) tNil)))))) (tRet (tC (.bl false))) tNext))))
  (tRet (tC (.bl true)))))))
theorem ps__law_plays (T : Tx w K mg) (D__law_same_play : Df P w K mg base "_law_same_play" ["told", "moves", "word"] 2 (spz K (F__law_same_play K))) (D__law_walk : Df P w K mg base "_law_walk" ["rows", "symbols", "longest"] 1 (spz K (F__law_walk K))) (D_play_two : Df P w K mg base "play_two" ["machine", "text", "most"] 3 (spz K (F_play_two K))) {f : Addr} {cdv : Value} {A : Around} {outer : List Env} {s : Shared} {H : Hp} {E : XK} (hr : Room 3 (A.deeper (envOfC "_law_plays" (defScope s__law_plays) s.heap.objs.size f cdv))) :
    PSs (cxOf (L2.CX P w) P w K mg base N__law_plays "_law_plays" (defScope s__law_plays) f cdv A outer s H E) (defBody s__law_plays) (t__law_plays w K (fun cls d _ H' => E cls d H')) := by
  have nd := sc__law_plays.nd
  have hu := hr.units
  have tk : Takes (cxOf (L2.CX P w) P w K mg base N__law_plays "_law_plays" (defScope s__law_plays) f cdv A outer s H E) (fun cls d _ H' => E cls d H') := takes_of rfl rfl rfl rfl
  exact (pss_cons (ps_set (i := 6) nd rfl (Or.inl rfl) (pe_callZ D__law_walk (hr.mono (by omega)) tk (pa_cons (pv 1) (pa_cons (pe_lc (own := [(PySem.Str.ofString "letter", 10)]) (by rfl) nd (pi_str (pv 3)) (blkOk_by (own := [(PySem.Str.ofString "letter", 10)]) (N := N__law_plays) (by show blkC N__law_plays (defScope s__law_plays) _ [(PySem.Str.ofString "letter", 10)] = true; decide +kernel)) (fun _ _ _ _ _ => (pg_name (i := 10) nd rfl (Or.inl rfl))) (fun _ _ _ _ _ => pts_nil) (fun _ _ _ _ _ => (pe_op op_zAdd (pe_bm PySem.F.plainAttrs_str PySem.F.slot_str_index PySem.F.type_str_index mt_zIndexT (pv 2) (pa_cons (pv 10) pa_nil)) pe_int))) (pa_cons (pv 4) pa_nil)))))
  (pss_cons (ps_set (i := 7) nd rfl (Or.inl rfl) (pe_lst (pa_cons (pv 4) (pa_cons pe_int (pa_cons (pe_op op_zMod (pe_callTy call_zInt (by rfl) T.f_int bt_int (pa_cons (pv 5) pa_nil)) (pe_op op_zAdd (pv 4) pe_int)) (pa_cons (pe_ix (ix_z hu) (pv 6) pe_int (fun _ _ => rfl)) pa_nil))))))
  (pss_cons (ps_if (pt_cmpR op_zGt (pe_ix (ix_z hu) (pv 6) pe_int (fun _ _ => rfl)) pe_int (nomark _)) (pss_one (ps_expr (pe_bm PySem.F.plainAttrs_list PySem.F.slot_list_append PySem.F.type_list_append mt_append (pv 7) (pa_cons (pe_op op_zSub (pe_ix (ix_z hu) (pv 6) pe_int (fun _ _ => rfl)) pe_int) pa_nil)))) pss_nil)
  (pss_cons (ps_for (passes_of rfl) rfl (pi_list (pv 7)) (pg_name (i := 8) nd rfl (Or.inl rfl)) (pss_cons (ps_set (i := 9) nd rfl (Or.inl rfl) (pe_callZ D_play_two (hr.mono (by omega)) tk (pa_cons (pv 0) (pa_cons (pv 3) (pa_cons (pv 8) pa_nil)))))
  (pss_one (ps_if (PW.pt (pw_and (pt_cmpR op_zNotN (pe_ix (ix_z hu) (pv 6) pe_int (fun _ _ => rfl)) pe_non (nomark _)) (pw_and1 (pt_cmpR op_zLe (pe_ix (ix_z hu) (pv 6) pe_int (fun _ _ => rfl)) (pv 8) (nomark _))))) (pss_one (ps_if (pt_not (pt_val (pe_callZ D__law_same_play (hr.mono (by omega)) tk (pa_cons (pv 9) (pa_cons (pe_ix (ix_z hu) (pv 6) pe_int (fun _ _ => rfl)) (pa_cons (pe_ix (ix_z hu) (pv 6) pe_int (fun _ _ => rfl)) pa_nil)))))) (pss_one (ps_ret pe_bl)) pss_nil)) (pss_one (ps_if (pt_not (pt_val (pe_callZ D__law_same_play (hr.mono (by omega)) tk (pa_cons (pv 9) (pa_cons (pv 8) (pa_cons pe_non pa_nil)))))) (pss_one (ps_ret pe_bl)) pss_nil))))))
  (pss_one (ps_ret pe_bl))))))
def t_law (w : World) (K : PySem.W.Frag) (W : WX) : TS :=
  (tSeq (tAsg (tCallS (spz K (F__law_digits K)) (WE W) (tCons (tCallS (spz K (F__law_cell K)) (WE W) (tCons (tVar 0) (tCons (tC (.int 0)) tNil))) (tCons (tLst (tCons (tC (.int 8)) (tCons (tC (.int 8)) (tCons (tC (.int 8)) (tCons (tC (.int 8)) (tCons (tC (.int 4)) (tCons (tC (.int 8)) (tCons (tC (.int 100)) (tCons (tC (.int 8)) (tCons (tC (.int 16)) (tCons (tC (.int 12)) (tCons (tC (.int 5001)) tNil)))))))))))) tNil))) (gName 1))
  (tSeq (tAsg (tCallS (spz K (F__law_letters K)) (WE W) (tCons (tVar 1) tNil)) (gName 2))
  (tSeq (tAsg (tOp (zAdd K) (tC (.int 1)) (tOp (zIx K) (tVar 1) (tC (.int 4)))) (gName 3))
  (tSeq (tAsg (tOp (zIx K) (tLst (tCons (tC (.int 2)) (tCons (tC (.int 3)) (tCons (tC (.int 2)) (tCons (tC (.int 1)) (tCons (tC (.int 4)) (tCons (tC (.int 3)) (tCons (tC (.int 5)) (tCons (tOp (zAdd K) (tC (.int 1)) (tOp (zIx K) (tVar 1) (tC (.int 6)))) tNil))))))))) (tOp (zIx K) (tVar 1) (tC (.int 5)))) (gName 4))
  (tSeq (tIfS (tAnd (tTest (tOp zGt (tVar 4) (tC (.int 8)))) (tTest (tOp zGt (tVar 3) (tC (.int 2))))) (tAsg (tC (.int 2)) (gName 3)) tNext)
  (tSeq (tAsg (tCallS (spz K (F__law_two_table K)) (WE W) (tCons (tVar 0) (tCons (tC (.int 4)) (tCons (tOp (zAdd K) (tC (.int 1)) (tCB (zLen K) (tCons (tVar 2) tNil))) (tCons (tVar 4) (tCons (tVar 3) tNil)))))) (gName 5))
  (tSeq (tAsg (tCallS (spm K (F__law_handed K)) (WE W) (tCons (tVar 5) (tCons (tOp (zIx K) (tVar 1) (tC (.int 7))) tNil))) (gName 6))
  (tSeq (tAsg (tMkZ (He.ga K (PySem.Str.ofString "TwoTape")) (spI K (He.ga K "TwoTape") (F_TwoTape K)) (WE W) (tCons (tVar 2) (tCons (tVar 4) (tCons (tVar 6) tNil)))) (gName 7))
  (tSeq (tDrop (tCallS (spm K (F__law_ruin K)) (WE W) (tCons (tVar 6) tNil)))
  (tSeq (tAsg (tOp (zAdd K) (tC (.int 60)) (tOp zMul (tC (.int 10)) (tOp (zIx K) (tVar 1) (tC (.int 8))))) (gName 8))
  (tSeq (tIfS (tTest (tOp (zEq K) (tOp (zIx K) (tVar 1) (tC (.int 8))) (tC (.int 0)))) (tAsg (tC (.int 5000)) (gName 8)) tNext)
  (tSeq (tAsg (tCallS (spz K (F__law_digits K)) (WE W) (tCons (tCallS (spz K (F__law_cell K)) (WE W) (tCons (tVar 0) (tCons (tC (.int 1)) tNil))) (tCons (tOp (zAdd K) (tLst (tCons (tC (.int 6)) (tCons (tC (.int 41)) (tCons (tC (.int 8)) (tCons (tC (.int 401)) tNil))))) (tOp zMul (tLst (tCons (tC (.int 6)) tNil)) (tC (.int 40)))) tNil))) (gName 9))
  (tSeq (tAsg (tLst (tCons (tBM K "str" (zJoin K) (tC (.str (tx []))) (tCons (tLc (iRng1 (tCons (tOp (zIx K) (tVar 9) (tC (.int 0))) tNil)) (gName 15) tYes (tOp (zIx K) (tVar 2) (tOp zMod (tCB zInt (tCons (tOp (zIx K) (tVar 9) (tOp (zAdd K) (tC (.int 4)) (tVar 15))) tNil)) (tCB (zLen K) (tCons (tVar 2) tNil)))) [15]) tNil)) (tCons (tBM K "str" (zJoin K) (tC (.str (tx []))) (tCons (tLc (iRng1 (tCons (tOp (zIx K) (tVar 9) (tC (.int 1))) tNil)) (gName 15) tYes (tOp (zIx K) (tVar 2) (tOp zMod (tCB zInt (tCons (tOp (zIx K) (tVar 9) (tOp (zAdd K) (tC (.int 4)) (tOp zMod (tCB zInt (tCons (tVar 15) tNil)) (tC (.int 40))))) tNil)) (tCB (zLen K) (tCons (tVar 2) tNil)))) [15]) tNil)) tNil))) (gName 10))
  (tSeq (tIfS (tTest (tOp (zEq K) (tOp (zIx K) (tVar 9) (tC (.int 2))) (tC (.int 0)))) (tDrop (tBM K "list" rAppend (tVar 10) (tCons (tBM K "str" (zJoin K) (tC (.str (tx []))) (tCons (tLc (iRng1 (tCons (tOp (zIx K) (tVar 9) (tC (.int 3))) tNil)) (gName 15) tYes (tOp (zIx K) (tVar 2) (tOp zMod (tCB zInt (tCons (tOp (zIx K) (tVar 9) (tOp (zAdd K) (tC (.int 4)) (tOp zMod (tCB zInt (tCons (tOp (zAdd K) (tOp zMul (tVar 15) (tVar 15)) (tVar 15)) tNil)) (tC (.int 40))))) tNil)) (tCB (zLen K) (tCons (tVar 2) tNil)))) [15]) tNil)) tNil))) tNext)
  (tSeq (tIfS (tNot (tB (tCallS (spz K (F__law_same_machine K)) (WE W) (tCons (tVar 7) (tCons (tVar 2) (tCons (tVar 4) (tCons (tVar 5) tNil))))))) (tRet (tC (.bl false))) tNext)
  (tSeq (tFor (iList K (tVar 10)) (gName 11) (tIfS (tNot (tB (tCallS (spz K (F__law_plays K)) (WE W) (tCons (tVar 7) (tCons (tVar 5) (tCons (tVar 2) (tCons (tVar 11) (tCons (tVar 8) (tCons (tOp (zIx K) (tVar 1) (tC (.int 10))) tNil))))))))) (tRet (tC (.bl false))) tNext))
  (tSeq (tAsg (tCallS (spz K (F__law_digits K)) (WE W) (tCons (tCallS (spz K (F__law_cell K)) (WE W) (tCons (tVar 0) (tCons (tC (.int 3)) tNil))) (tCons (tLst (tCons (tC (.int 40)) (tCons (tC (.int 41)) (tCons (tC (.int 40)) (tCons (tC (.int 41)) tNil))))) tNil))) (gName 12))
  (tSeq (tIfS (tNot (tB (tCallS (spz K (F__law_refuses_texts K)) (WE W) (tCons (tVar 7) (tCons (tVar 2) (tCons (tOp (zIx K) (tVar 10) (tC (.int 1))) (tCons (tVar 12) (tCons (tOp zMod (tCB zInt (tCons (tOp (zIx K) (tVar 1) (tC (.int 10))) tNil)) (tC (.int 50))) tNil)))))))) (tRet (tC (.bl false))) tNext)
  (tSeq (tIfS (tNot (tB (tCallS (spz K (F__law_wrong_letters K)) (WE W) (tCons (tVar 2) (tCons (tVar 4) (tCons (tVar 5) (tCons (tOp (zIx K) (tVar 1) (tC (.int 9))) tNil))))))) (tRet (tC (.bl false))) tNext)
  (tSeq (tAsg (tCallS (spz K (F__law_changed_tables K)) (WE W) (tCons (tVar 0) (tCons (tVar 2) (tCons (tVar 4) (tCons (tVar 5) (tCons (tOp (zIx K) (tVar 1) (tC (.int 7))) tNil)))))) (gName 13))
  (tSeq (tIfS (tTest (tOp zIsN (tVar 13) (tC .non))) (tRet (tC (.bl false))) tNext)
  (tSeq (tFor (iList K (tOp (zAdd K) (tOp (zAdd K) (tLst (tCons (tLst (tCons (tVar 7) (tCons (tVar 5) tNil))) tNil)) (tVar 13)) (tLst (tCons (tLst (tCons (tVar 7) (tCons (tVar 5) tNil))) tNil)))) (gName 14) (tSeq (tIfS (tNot (tB (tCallS (spz K (F__law_same_machine K)) (WE W) (tCons (tOp (zIx K) (tVar 14) (tC (.int 0))) (tCons (tVar 2) (tCons (tVar 4) (tCons (tOp (zIx K) (tVar 14) (tC (.int 1))) tNil))))))) (tRet (tC (.bl false))) tNext)
  (tIfS (tNot (tB (tCallS (spz K (F__law_plays K)) (WE W) (tCons (tOp (zIx K) (tVar 14) (tC (.int 0))) (tCons (tOp (zIx K) (tVar 14) (tC (.int 1))) (tCons (tVar 2) (tCons (tOp (zIx K) (tVar 10) (tC (.int 0))) (tCons (tC (.int 30)) (tCons (tOp (zIx K) (tVar 1) (tC (.int 10))) tNil))))))))) (tRet (tC (.bl false))) tNext)))
  (tRet (tC (.bl true)))))))))))))))))))))))))
theorem ps_law (T : Tx w K mg) (C_TwoTape : Dc P w K mg base "TwoTape" (He.ga K "TwoTape") ["self", "letters", "second_symbols", "table"] 8 (spI K (He.ga K "TwoTape") (F_TwoTape K))) (D__law_cell : Df P w K mg base "_law_cell" ["script", "k"] 1 (spz K (F__law_cell K))) (D__law_changed_tables : Df P w K mg base "_law_changed_tables" ["script", "letters", "second", "rows", "style"] 11 (spz K (F__law_changed_tables K))) (D__law_digits : Df P w K mg base "_law_digits" ["cell", "sizes"] 1 (spz K (F__law_digits K))) (D__law_handed : Df P w K mg base "_law_handed" ["rows", "style"] 1 (spm K (F__law_handed K))) (D__law_letters : Df P w K mg base "_law_letters" ["row"] 1 (spz K (F__law_letters K))) (D__law_plays : Df P w K mg base "_law_plays" ["machine", "rows", "letters", "text", "longest", "other"] 4 (spz K (F__law_plays K))) (D__law_refuses_texts : Df P w K mg base "_law_refuses_texts" ["machine", "letters", "text", "digits", "bound"] 5 (spz K (F__law_refuses_texts K))) (D__law_ruin : Df P w K mg base "_law_ruin" ["handed"] 1 (spm K (F__law_ruin K))) (D__law_same_machine : Df P w K mg base "_law_same_machine" ["machine", "letters", "second", "rows"] 4 (spz K (F__law_same_machine K))) (D__law_two_table : Df P w K mg base "_law_two_table" ["script", "at", "first", "second", "states"] 2 (spz K (F__law_two_table K))) (D__law_wrong_letters : Df P w K mg base "_law_wrong_letters" ["letters", "second", "rows", "number"] 11 (spz K (F__law_wrong_letters K))) {f : Addr} {cdv : Value} {A : Around} {outer : List Env} {s : Shared} {H : Hp} {E : XK} (hr : Room 11 (A.deeper (envOfC "law" (defScope s_law) s.heap.objs.size f cdv))) :
    PSs (cxOf (L2.CX P w) P w K mg base N_law "law" (defScope s_law) f cdv A outer s H E) (defBody s_law) (t_law w K (fun cls d _ H' => E cls d H')) := by
  have nd := sc_law.nd
  have hu := hr.units
  have tk : Takes (cxOf (L2.CX P w) P w K mg base N_law "law" (defScope s_law) f cdv A outer s H E) (fun cls d _ H' => E cls d H') := takes_of rfl rfl rfl rfl
  exact (pss_cons (ps_set (i := 1) nd rfl (Or.inl rfl) (pe_callZ D__law_digits (hr.mono (by omega)) tk (pa_cons (pe_callZ D__law_cell (hr.mono (by omega)) tk (pa_cons (pv 0) (pa_cons pe_int pa_nil))) (pa_cons (pe_lst (pa_cons pe_int (pa_cons pe_int (pa_cons pe_int (pa_cons pe_int (pa_cons pe_int (pa_cons pe_int (pa_cons pe_int (pa_cons pe_int (pa_cons pe_int (pa_cons pe_int (pa_cons pe_int pa_nil)))))))))))) pa_nil))))
  (pss_cons (ps_set (i := 2) nd rfl (Or.inr rfl) (pe_callZ D__law_letters (hr.mono (by omega)) tk (pa_cons (pv 1) pa_nil)))
  (pss_cons (ps_set (i := 3) nd rfl (Or.inl rfl) (pe_op op_zAdd pe_int (pe_ix (ix_z hu) (pv 1) pe_int (fun _ _ => rfl))))
  (pss_cons (ps_set (i := 4) nd rfl (Or.inl rfl) (pe_ix (ix_z hu) (pe_lst (pa_cons pe_int (pa_cons pe_int (pa_cons pe_int (pa_cons pe_int (pa_cons pe_int (pa_cons pe_int (pa_cons pe_int (pa_cons (pe_op op_zAdd pe_int (pe_ix (ix_z hu) (pv 1) pe_int (fun _ _ => rfl))) pa_nil))))))))) (pe_ix (ix_z hu) (pv 1) pe_int (fun _ _ => rfl)) (fun _ _ => rfl)))
  (pss_cons (ps_if (PW.pt (pw_and (pt_cmpR op_zGt (pv 4) pe_int (nomark _)) (pw_and1 (pt_cmpR op_zGt (pv 3) pe_int (nomark _))))) (pss_one (ps_set (i := 3) nd rfl (Or.inl rfl) pe_int)) pss_nil)
  (pss_cons (ps_set (i := 5) nd rfl (Or.inl rfl) (pe_callZ D__law_two_table (hr.mono (by omega)) tk (pa_cons (pv 0) (pa_cons pe_int (pa_cons (pe_op op_zAdd pe_int (pe_callB call_zLen (by rfl) T.f_len bt_len (pa_cons (pv 2) pa_nil))) (pa_cons (pv 4) (pa_cons (pv 3) pa_nil)))))))
  (pss_cons (ps_set (i := 6) nd rfl (Or.inl rfl) (pe_callZ D__law_handed (hr.mono (by omega)) tk (pa_cons (pv 5) (pa_cons (pe_ix (ix_z hu) (pv 1) pe_int (fun _ _ => rfl)) pa_nil))))
  (pss_cons (ps_set (i := 7) nd rfl (Or.inl rfl) (pe_mkZ C_TwoTape (hr.mono (by omega)) tk (pa_cons (pv 2) (pa_cons (pv 4) (pa_cons (pv 6) pa_nil)))))
  (pss_cons (ps_expr (pe_callZ D__law_ruin (hr.mono (by omega)) tk (pa_cons (pv 6) pa_nil)))
  (pss_cons (ps_set (i := 8) nd rfl (Or.inl rfl) (pe_op op_zAdd pe_int (pe_op op_zMul pe_int (pe_ix (ix_z hu) (pv 1) pe_int (fun _ _ => rfl)))))
  (pss_cons (ps_if (pt_cmpR (op_zEq hu) (pe_ix (ix_z hu) (pv 1) pe_int (fun _ _ => rfl)) pe_int (nomark _)) (pss_one (ps_set (i := 8) nd rfl (Or.inl rfl) pe_int)) pss_nil)
  (pss_cons (ps_set (i := 9) nd rfl (Or.inr rfl) (pe_callZ D__law_digits (hr.mono (by omega)) tk (pa_cons (pe_callZ D__law_cell (hr.mono (by omega)) tk (pa_cons (pv 0) (pa_cons pe_int pa_nil))) (pa_cons (pe_op op_zAdd (pe_lst (pa_cons pe_int (pa_cons pe_int (pa_cons pe_int (pa_cons pe_int pa_nil))))) (pe_op op_zMul (pe_lst (pa_cons pe_int pa_nil)) pe_int)) pa_nil))))
  (pss_cons (ps_set (i := 10) nd rfl (Or.inl rfl) (pe_lst (pa_cons (pe_bm PySem.F.plainAttrs_str PySem.F.slot_str_join PySem.F.type_str_join mt_zJoin pe_str (pa_cons (pe_lc (own := [(PySem.Str.ofString "k", 15)]) (by rfl) nd (pi_range1 (by rfl) T.f_range (pa_cons (pe_ix (ix_z hu) (pv 9) pe_int (fun _ _ => rfl)) pa_nil)) (blkOk_by (own := [(PySem.Str.ofString "k", 15)]) (N := N_law) (by show blkC N_law (defScope s_law) _ [(PySem.Str.ofString "k", 15)] = true; decide +kernel)) (fun _ _ _ _ _ => (pg_name (i := 15) nd rfl (Or.inl rfl))) (fun _ _ _ _ _ => pts_nil) (fun _ _ _ _ _ => (pe_ix (ix_z hu) (pv 2) (pe_op op_zMod (pe_callTy call_zInt (by rfl) T.f_int bt_int (pa_cons (pe_ix (ix_z hu) (pv 9) (pe_op op_zAdd pe_int (pv 15)) (fun _ _ => rfl)) pa_nil)) (pe_callB call_zLen (by rfl) T.f_len bt_len (pa_cons (pv 2) pa_nil))) (fun _ _ => rfl)))) pa_nil)) (pa_cons (pe_bm PySem.F.plainAttrs_str PySem.F.slot_str_join PySem.F.type_str_join mt_zJoin pe_str (pa_cons (pe_lc (own := [(PySem.Str.ofString "k", 15)]) (by rfl) nd (pi_range1 (by rfl) T.f_range (pa_cons (pe_ix (ix_z hu) (pv 9) pe_int (fun _ _ => rfl)) pa_nil)) (blkOk_by (own := [(PySem.Str.ofString "k", 15)]) (N := N_law) (by show blkC N_law (defScope s_law) _ [(PySem.Str.ofString "k", 15)] = true; decide +kernel)) (fun _ _ _ _ _ => (pg_name (i := 15) nd rfl (Or.inl rfl))) (fun _ _ _ _ _ => pts_nil) (fun _ _ _ _ _ => (pe_ix (ix_z hu) (pv 2) (pe_op op_zMod (pe_callTy call_zInt (by rfl) T.f_int bt_int (pa_cons (pe_ix (ix_z hu) (pv 9) (pe_op op_zAdd pe_int (pe_op op_zMod (pe_callTy call_zInt (by rfl) T.f_int bt_int (pa_cons (pv 15) pa_nil)) pe_int)) (fun _ _ => rfl)) pa_nil)) (pe_callB call_zLen (by rfl) T.f_len bt_len (pa_cons (pv 2) pa_nil))) (fun _ _ => rfl)))) pa_nil)) pa_nil))))
  (pss_cons (ps_if (pt_cmpR (op_zEq hu) (pe_ix (ix_z hu) (pv 9) pe_int (fun _ _ => rfl)) pe_int (nomark _)) (pss_one (ps_expr (pe_bm PySem.F.plainAttrs_list PySem.F.slot_list_append PySem.F.type_list_append mt_append (pv 10) (pa_cons (pe_bm PySem.F.plainAttrs_str PySem.F.slot_str_join PySem.F.type_str_join mt_zJoin pe_str (pa_cons (pe_lc (own := [(PySem.Str.ofString "k", 15)]) (by rfl) nd (pi_range1 (by rfl) T.f_range (pa_cons (pe_ix (ix_z hu) (pv 9) pe_int (fun _ _ => rfl)) pa_nil)) (blkOk_by (own := [(PySem.Str.ofString "k", 15)]) (N := N_law) (by show blkC N_law (defScope s_law) _ [(PySem.Str.ofString "k", 15)] = true; decide +kernel)) (fun _ _ _ _ _ => (pg_name (i := 15) nd rfl (Or.inl rfl))) (fun _ _ _ _ _ => pts_nil) (fun _ _ _ _ _ => (pe_ix (ix_z hu) (pv 2) (pe_op op_zMod (pe_callTy call_zInt (by rfl) T.f_int bt_int (pa_cons (pe_ix (ix_z hu) (pv 9) (pe_op op_zAdd pe_int (pe_op op_zMod (pe_callTy call_zInt (by rfl) T.f_int bt_int (pa_cons (pe_op op_zAdd (pe_op op_zMul (pv 15) (pv 15)) (pv 15)) pa_nil)) pe_int)) (fun _ _ => rfl)) pa_nil)) (pe_callB call_zLen (by rfl) T.f_len bt_len (pa_cons (pv 2) pa_nil))) (fun _ _ => rfl)))) pa_nil)) pa_nil)))) pss_nil)
  (pss_cons (ps_if (pt_not (pt_val (pe_callZ D__law_same_machine (hr.mono (by omega)) tk (pa_cons (pv 7) (pa_cons (pv 2) (pa_cons (pv 4) (pa_cons (pv 5) pa_nil))))))) (pss_one (ps_ret pe_bl)) pss_nil)
  (pss_cons (ps_for (passes_of rfl) rfl (pi_list (pv 10)) (pg_name (i := 11) nd rfl (Or.inl rfl)) (pss_one (ps_if (pt_not (pt_val (pe_callZ D__law_plays (hr.mono (by omega)) tk (pa_cons (pv 7) (pa_cons (pv 5) (pa_cons (pv 2) (pa_cons (pv 11) (pa_cons (pv 8) (pa_cons (pe_ix (ix_z hu) (pv 1) pe_int (fun _ _ => rfl)) pa_nil))))))))) (pss_one (ps_ret pe_bl)) pss_nil)))
  (pss_cons (ps_set (i := 12) nd rfl (Or.inl rfl) (pe_callZ D__law_digits (hr.mono (by omega)) tk (pa_cons (pe_callZ D__law_cell (hr.mono (by omega)) tk (pa_cons (pv 0) (pa_cons pe_int pa_nil))) (pa_cons (pe_lst (pa_cons pe_int (pa_cons pe_int (pa_cons pe_int (pa_cons pe_int pa_nil))))) pa_nil))))
  (pss_cons (ps_if (pt_not (pt_val (pe_callZ D__law_refuses_texts (hr.mono (by omega)) tk (pa_cons (pv 7) (pa_cons (pv 2) (pa_cons (pe_ix (ix_z hu) (pv 10) pe_int (fun _ _ => rfl)) (pa_cons (pv 12) (pa_cons (pe_op op_zMod (pe_callTy call_zInt (by rfl) T.f_int bt_int (pa_cons (pe_ix (ix_z hu) (pv 1) pe_int (fun _ _ => rfl)) pa_nil)) pe_int) pa_nil)))))))) (pss_one (ps_ret pe_bl)) pss_nil)
  (pss_cons (ps_if (pt_not (pt_val (pe_callZ D__law_wrong_letters (hr.mono (by omega)) tk (pa_cons (pv 2) (pa_cons (pv 4) (pa_cons (pv 5) (pa_cons (pe_ix (ix_z hu) (pv 1) pe_int (fun _ _ => rfl)) pa_nil))))))) (pss_one (ps_ret pe_bl)) pss_nil)
  (pss_cons (ps_set (i := 13) nd rfl (Or.inl rfl) (pe_callZ D__law_changed_tables (hr.mono (by omega)) tk (pa_cons (pv 0) (pa_cons (pv 2) (pa_cons (pv 4) (pa_cons (pv 5) (pa_cons (pe_ix (ix_z hu) (pv 1) pe_int (fun _ _ => rfl)) pa_nil)))))))
  (pss_cons (ps_if (pt_cmpR op_zIsN (pv 13) pe_non (nomark _)) (pss_one (ps_ret pe_bl)) pss_nil)
  (pss_cons (ps_for (passes_of rfl) rfl (pi_list (pe_op op_zAdd (pe_op op_zAdd (pe_lst (pa_cons (pe_lst (pa_cons (pv 7) (pa_cons (pv 5) pa_nil))) pa_nil)) (pv 13)) (pe_lst (pa_cons (pe_lst (pa_cons (pv 7) (pa_cons (pv 5) pa_nil))) pa_nil)))) (pg_name (i := 14) nd rfl (Or.inl rfl)) (pss_cons (ps_if (pt_not (pt_val (pe_callZ D__law_same_machine (hr.mono (by omega)) tk (pa_cons (pe_ix (ix_z hu) (pv 14) pe_int (fun _ _ => rfl)) (pa_cons (pv 2) (pa_cons (pv 4) (pa_cons (pe_ix (ix_z hu) (pv 14) pe_int (fun _ _ => rfl)) pa_nil))))))) (pss_one (ps_ret pe_bl)) pss_nil)
  (pss_one (ps_if (pt_not (pt_val (pe_callZ D__law_plays (hr.mono (by omega)) tk (pa_cons (pe_ix (ix_z hu) (pv 14) pe_int (fun _ _ => rfl)) (pa_cons (pe_ix (ix_z hu) (pv 14) pe_int (fun _ _ => rfl)) (pa_cons (pv 2) (pa_cons (pe_ix (ix_z hu) (pv 10) pe_int (fun _ _ => rfl)) (pa_cons pe_int (pa_cons (pe_ix (ix_z hu) (pv 1) pe_int (fun _ _ => rfl)) pa_nil))))))))) (pss_one (ps_ret pe_bl)) pss_nil))))
  (pss_one (ps_ret pe_bl))))))))))))))))))))))))
end
section
variable {mg : Str → Option Value}
theorem pure__law_digits {mg : Str → Option Value} {w : World} (B : Bx) (T : Tx w B.K mg) (W : WX) (ds : List D) (R : Sl → Prop) (X : Xc → Prop) (h : F__law_digits B.K ds R X) : Sv B W (t__law_digits w B.K W) (ini N__law_digits ds) { nx := fun _ => R (.dat .non), rt := R, xc := fun x _ => X x } :=
  pure_digits B W ds R X h
theorem pure__law_cell {mg : Str → Option Value} {w : World} (B : Bx) (T : Tx w B.K mg) (W : WX) (ds : List D) (R : Sl → Prop) (X : Xc → Prop) (h : F__law_cell B.K ds R X) : Sv B W (t__law_cell w B.K W) (ini N__law_cell ds) { nx := fun _ => R (.dat .non), rt := R, xc := fun x _ => X x } :=
  pure_cell B W ds R X h
end
end L

namespace L
open PySem PySem.Spec PyProof.Rows L2 Z
local macro_rules | `(tactic| walk_at "at") => `(tactic| first | with_reducible exact SetAt.zero | ((with_reducible apply SetAt.succ); walk_at "at"))
local macro_rules | `(tactic| walk_at "sd") => `(tactic| first | (with_reducible assumption) | omega | (simp only [rep_length, List.length_append, List.length_cons, List.length_nil, List.length_map, List.length_replicate, List.length_range, List.length_take, List.length_reverse] <;> omega) | decide | exact Nat.le_of_ble_eq_true rfl)
local macro_rules | `(tactic| walk_at "cm") => `(tactic| first | (with_reducible assumption) | (refine cmul_s ?_ ?_ ?_ ?_ <;> first | omega | decide))
local macro_rules | `(tactic| walk_at "rv") => `(tactic| first
  | with_reducible exact rv_add | ((with_reducible apply rv_addT); walk_at "sd") | ((with_reducible apply rv_addL); walk_at "sd") | ((with_reducible apply rv_addU); walk_at "sd")
  | with_reducible exact rv_sub | ((with_reducible apply rv_mul); walk_at "cm") | ((with_reducible apply rv_mulT) <;> walk_at "sd")
  | ((with_reducible apply rv_div); first | assumption | exact cdiv_s (by walk_at "sd") (by walk_at "sd")) | ((with_reducible apply rv_mod); walk_at "sd") | ((with_reducible apply rv_pow); exact ⟨by decide, by decide, by decide⟩)
  | with_reducible exact rv_lt | with_reducible exact rv_le | with_reducible exact rv_gt | with_reducible exact rv_ge
  | with_reducible exact rv_eqI | with_reducible exact rv_eqT | with_reducible exact rv_eqB | with_reducible exact rv_neI | with_reducible exact rv_neT | with_reducible exact rv_neB
  | ((with_reducible apply rv_ixL); first | with_reducible assumption | exact rfl) | ((with_reducible apply rv_ixU); first | with_reducible assumption | exact rfl) | ((with_reducible apply rv_ixT); (focus (first | with_reducible assumption | exact rfl)); walk_at "sd")
  | with_reducible exact rv_isN | with_reducible exact rv_isN' | with_reducible exact rv_notN'
  | with_reducible exact rv_inT | with_reducible exact rv_ninT | with_reducible exact rv_inTs | with_reducible exact rv_ninTs | with_reducible assumption)
local macro_rules | `(tactic| walk_at "rc") => `(tactic| first | with_reducible exact rc_int | with_reducible exact rc_intB | with_reducible exact rc_lenL | with_reducible exact rc_lenU | ((with_reducible apply rc_lenT); walk_at "sd") | with_reducible exact rc_min | with_reducible exact rc_tupleL | with_reducible exact rc_tupleU | with_reducible exact rc_listL | with_reducible exact rc_listU | with_reducible exact rc_max | ((with_reducible apply rc_isi); (focus (exact rfl)); first | with_reducible exact kitT | with_reducible exact kit_NoneType_int | with_reducible exact kit_NoneType_bool | with_reducible exact kit_NoneType_str | with_reducible exact kit_NoneType_list | with_reducible exact kit_NoneType_tuple | with_reducible exact kit_bool_int | with_reducible exact kit_bool_bool | with_reducible exact kit_bool_str | with_reducible exact kit_bool_list | with_reducible exact kit_bool_tuple | with_reducible exact kit_int_int | with_reducible exact kit_int_bool | with_reducible exact kit_int_str | with_reducible exact kit_int_list | with_reducible exact kit_int_tuple | with_reducible exact kit_str_int | with_reducible exact kit_str_bool | with_reducible exact kit_str_str | with_reducible exact kit_str_list | with_reducible exact kit_str_tuple | with_reducible exact kit_list_int | with_reducible exact kit_list_bool | with_reducible exact kit_list_str | with_reducible exact kit_list_list | with_reducible exact kit_list_tuple | with_reducible exact kit_tuple_int | with_reducible exact kit_tuple_bool | with_reducible exact kit_tuple_str | with_reducible exact kit_tuple_list | with_reducible exact kit_tuple_tuple | assumption | rfl) | with_reducible assumption)
local macro_rules | `(tactic| walk_at "rs") => `(tactic| first | with_reducible exact rs_slL | with_reducible exact rs_slU | ((with_reducible apply rs_slT); walk_at "sd"))
local macro_rules | `(tactic| walk_at "ru") => `(tactic| first | ((with_reducible apply ru_rev); walk_at "sd") | with_reducible exact ru_neg)
local macro_rules | `(tactic| walk_at "rm") => `(tactic| first | with_reducible exact rm_count | with_reducible assumption)
local macro_rules | `(tactic| walk_at "eo") => `(tactic| first
  | ((with_reducible apply evo_lstX); (focus (walk_at "ev")); exact Nat.le_of_ble_eq_true rfl)
  | ((with_reducible apply evo_callS); (focus (walk_at "ev")); (focus (walk_at "fn")))
  | ((with_reducible apply evo_addL rfl); (focus (walk_at "ev")); (focus (walk_at "ev")); walk_at "sd")
  | ((with_reducible apply evo_listL rfl); walk_at "ev") | ((with_reducible apply evo_listU rfl); walk_at "ev")
  | with_reducible assumption)
local macro_rules | `(tactic| walk_at "ev") => `(tactic| first
  | (with_reducible assumption)
  | ((with_reducible apply ev_var); exact rfl)
  | with_reducible exact ev_int | with_reducible exact ev_str | with_reducible exact ev_bl | with_reducible exact ev_non | with_reducible exact ev_ty | with_reducible exact ev_ref
  | with_reducible exact eva_nil
  | ((with_reducible apply eva_cons); (focus (walk_at "ev")); (focus (walk_at "ev")))
  | ((with_reducible apply ev_op); (focus (walk_at "ev")); (focus (walk_at "ev")); (focus (walk_at "rv")))
  | ((with_reducible apply ev_cb); (focus (walk_at "ev")); (focus (walk_at "rc")))
  | ((with_reducible apply evt_test); (focus (walk_at "ev")))
  | ((with_reducible apply evt_b); (focus (walk_at "ev")))
  | ((with_reducible apply evt_not); (focus (walk_at "ev")))
  | ((with_reducible apply evt_and); (focus (walk_at "ev")); (focus (intro _; walk_at "ev")))
  | ((with_reducible apply evt_or); (focus (walk_at "ev")); (focus (intro _; walk_at "ev")))
  | with_reducible exact evt_yes
  | ((with_reducible apply ev_and); (focus (walk_at "ev")); (focus (intro _; walk_at "ev")))
  | ((with_reducible apply ev_or); (focus (walk_at "ev")); (focus (intro _; walk_at "ev")))
  | ((with_reducible apply ev_not); (focus (walk_at "ev")))
  | ((with_reducible apply ev_callS); (focus (walk_at "ev")); (focus (walk_at "fn")))
  | ((with_reducible apply ev_call); (focus (walk_at "ev")); (focus (walk_at "fn")))
  | ((with_reducible apply ev_tupX); (focus (walk_at "ev")); exact Nat.le_of_ble_eq_true rfl)
  | with_reducible exact evp_none
  | ((with_reducible apply evp_some); (focus (walk_at "ev")))
  | ((with_reducible apply ev_sl); (focus (walk_at "ev")); (focus (walk_at "ev")); (focus (walk_at "ev")); (focus (walk_at "rs")))
  | ((with_reducible apply ev_un); (focus (walk_at "ev")); (focus (walk_at "ru")))
  | ((with_reducible apply ev_bmT); (focus (walk_at "ev")); (focus (walk_at "ev")); (focus (walk_at "rm")))
  | ((with_reducible apply ev_bmT0); (focus (walk_at "ev")); (focus (walk_at "rm")))
  | ((with_reducible apply evi_list); (focus (walk_at "ev")))
  | ((with_reducible apply evi_tup); (focus (walk_at "ev")))
  | ((with_reducible apply evi_str); (focus (walk_at "ev")))
  | ((with_reducible apply evi_rng1); (focus (walk_at "ev")); (focus (constructor <;> walk_at "sd")))
  | ((with_reducible apply evi_rng2); (focus (walk_at "ev")); (focus (constructor <;> walk_at "sd")); (focus (constructor <;> walk_at "sd")))
  | ((with_reducible apply Ev.of_own); walk_at "eo")
  | with_reducible assumption)
local macro_rules | `(tactic| walk_at "st") => `(tactic| repeat (first
  | (with_reducible apply sv_seq)
  | ((with_reducible apply sv_set); (focus (walk_at "ev")); (focus (walk_at "at")))
  | ((with_reducible apply sv_drop); (focus (walk_at "ev")))
  | (with_reducible apply sv_next)))
local macro_rules | `(tactic| walk_at "eq") => `(tactic| (with_reducible apply ev_eq); (focus (walk_at "ev")); rfl)
theorem list7 {α : Type} {r : List α} (h : r.length = 7) : ∃ a b c d e f g, r = [a, b, c, d, e, f, g] := by
  rcases r with _ | ⟨a, _ | ⟨b, _ | ⟨c, _ | ⟨d, _ | ⟨e, _ | ⟨f, _ | ⟨g, _ | ⟨x, r⟩⟩⟩⟩⟩⟩⟩⟩ <;> simp at h
  exact ⟨a, b, c, d, e, f, g, rfl⟩
theorem list4 {α : Type} {r : List α} (h : r.length = 4) : ∃ a b c d, r = [a, b, c, d] := by
  rcases r with _ | ⟨a, _ | ⟨b, _ | ⟨c, _ | ⟨d, _ | ⟨x, r⟩⟩⟩⟩⟩ <;> simp at h
  exact ⟨a, b, c, d, rfl⟩
theorem list2 {α : Type} {r : List α} (h : r.length = 2) : ∃ a b, r = [a, b] := by
  rcases r with _ | ⟨a, _ | ⟨b, _ | ⟨x, r⟩⟩⟩ <;> simp at h
  exact ⟨a, b, rfl⟩
theorem sv_retD {B : Bx} {W : WX} {te : TE} {Γ : List Sl} {P : Po} {d e : D} (h : Ev B te Γ d) (k : P.rt (.dat e)) (q : d = e := by rfl) : Sv B W (tRet te) Γ P := sv_ret h (q ▸ k)
theorem pure__law_letters {mg : Str → Option Value} {w : World} (B : Bx) (T : Tx w B.K mg) (W : WX) (ds : List D) (R : Sl → Prop) (X : Xc → Prop) (h : F__law_letters B.K ds R X) : Sv B W (t__law_letters w B.K W) (ini N__law_letters ds) { nx := fun _ => R (.dat .non), rt := R, xc := fun x _ => X x } := by
  obtain ⟨r0, r1, r2, r3, rest, rfl, h1, h2, h3, hR⟩ := h
  show Sv B W (t__law_letters w B.K W) [.dat (.lst (.int r0 :: .int r1 :: .int r2 :: .int r3 :: rest)), .un, .un, .un] _
  unfold t__law_letters
  have i0 : atI (D.int r0 :: .int r1 :: .int r2 :: .int r3 :: rest) (0 : Int) = some (.int r0) := atI_ofNat (n := 0) rfl
  have i1 : atI (D.int r0 :: .int r1 :: .int r2 :: .int r3 :: rest) (1 : Int) = some (.int r1) := atI_ofNat (n := 1) rfl
  have i2 : atI (D.int r0 :: .int r1 :: .int r2 :: .int r3 :: rest) (2 : Int) = some (.int r2) := atI_ofNat (n := 2) rfl
  have i3 : atI (D.int r0 :: .int r1 :: .int r2 :: .int r3 :: rest) (3 : Int) = some (.int r3) := atI_ofNat (n := 3) rfl
  have a1 := alpha_at (i := r1) h1.1 (by omega)
  have a2 := alpha_at (i := r1 + 1 + r2) (by omega) (by omega)
  have a3 := alpha_at (i := r1 + 1 + r2 + 1 + r3) (by omega) (by omega)
  refine sv_seq (sv_set (by walk_at "ev") (by walk_at "at") ?_)
  refine sv_seq (sv_set (by walk_at "ev") (by walk_at "at") ?_)
  refine sv_seq (sv_set (by walk_at "ev") (by walk_at "at") ?_)
  unfold lettersOf at hR
  refine sv_seq (sv_if (by walk_at "ev") (fun h => ?_) (fun h => ?_))
  · rw [if_pos (of_decide_eq_true h)] at hR
    exact sv_retD (by walk_at "ev") hR
  · rw [if_neg (of_decide_eq_false h)] at hR
    refine sv_next (sv_seq (sv_if (by walk_at "ev") (fun h => ?_) (fun h => ?_)))
    · rw [if_pos (of_decide_eq_true h)] at hR
      exact sv_retD (by walk_at "ev") hR
    · rw [if_neg (of_decide_eq_false h)] at hR
      exact sv_next (sv_retD (by walk_at "ev") hR)
theorem sorted_same : ∀ {a b : List Int}, a.Pairwise (· < ·) → b.Pairwise (· < ·) → (∀ k, k ∈ a ↔ k ∈ b) → a = b
  | [], [], _, _, _ => rfl
  | [], y :: b, _, _, h => by have := (h y).mpr (by simp); simp at this
  | x :: a, [], _, _, h => by have := (h x).mp (by simp); simp at this
  | x :: a, y :: b, ha, hb, h => by
    obtain ⟨a1, a2⟩ := List.pairwise_cons.mp ha
    obtain ⟨b1, b2⟩ := List.pairwise_cons.mp hb
    have e : x = y := by
      rcases List.mem_cons.mp ((h x).mp (by simp)) with e | q
      · exact e
      · rcases List.mem_cons.mp ((h y).mpr (by simp)) with e | p
        · exact e.symm
        · have := b1 x q; have := a1 y p; omega
    subst e
    rw [sorted_same a2 b2 fun k => ⟨fun hk => ?_, fun hk => ?_⟩]
    · rcases List.mem_cons.mp ((h k).mp (by simp [hk])) with e | q
      · subst e; have := a1 k hk; omega
      · exact q
    · rcases List.mem_cons.mp ((h k).mpr (by simp [hk])) with e | q
      · subst e; have := b1 k hk; omega
      · exact q
def plc (c : Nat) : Int := if 97 ≤ c ∧ c ≤ 122 then (c : Int) - 97 else -1
theorem find_al {c : Nat} : Txt.find (tx [97, 98, 99, 100, 101, 102, 103, 104, 105, 106, 107, 108, 109, 110, 111, 112, 113, 114, 115, 116, 117, 118, 119, 120, 121, 122]) (tx [c]) = plc c := by
  rw [find_one]
  unfold plc
  by_cases h : 97 ≤ c ∧ c ≤ 122
  · have key : ∀ k : Fin 26, (97 + k.val) ∈ alpha ∧ alpha.idxOf (97 + k.val) = k.val := by decide
    have := key ⟨c - 97, by omega⟩
    have e : 97 + (c - 97) = c := by omega
    simp only [e] at this
    rw [if_pos this.1, if_pos h]
    have h2 : ((alpha.idxOf c : Nat) : Int) = ((c - 97 : Nat) : Int) := by rw [this.2]
    show ((alpha.idxOf c : Nat) : Int) = _
    rw [h2]; omega
  · rw [if_neg, if_neg h]
    intro q
    simp at q
    omega
theorem right_iff {ls : List Nat} {ms : List Int} (hp : ms.Pairwise (· < ·)) (hm : ∀ k, k ∈ ms ↔ k ∈ ls.map plc) :
    ((decide ((1 : Int) ≤ ((ls.length : Nat) : Int)) && decide (((ls.length : Nat) : Int) ≤ 3)) && (!decide (-1 ∈ ls.map plc) && decide (ls.map plc = ms))) = true ↔ Right ls := by
  simp only [Bool.and_eq_true, decide_eq_true_eq, Bool.not_eq_true', decide_eq_false_iff_not]
  have hin : (-1 : Int) ∉ ls.map plc ↔ ∀ c ∈ ls, 97 ≤ c ∧ c ≤ 122 := by
    constructor
    · intro h c hc
      by_cases q : 97 ≤ c ∧ c ≤ 122
      · exact q
      · exact absurd (List.mem_map.mpr ⟨c, hc, (if_neg q : plc c = -1)⟩) h
    · intro h q
      obtain ⟨c, hc, e⟩ := List.mem_map.mp q
      have e : (if 97 ≤ c ∧ c ≤ 122 then (c : Int) - 97 else -1) = -1 := e
      rw [if_pos (h c hc)] at e
      have := (h c hc).1
      omega
  have hpw : (∀ c ∈ ls, 97 ≤ c ∧ c ≤ 122) → ((ls.map plc).Pairwise (· < ·) ↔ ls.Pairwise (· < ·)) := fun h => by
    rw [List.pairwise_map]
    refine List.Pairwise.iff_of_mem fun {a b} ha hb => ?_
    unfold plc
    rw [if_pos (h a ha), if_pos (h b hb)]
    omega
  constructor
  · rintro ⟨⟨h1, h2⟩, h3, h4⟩
    have h5 := hin.mp h3
    exact ⟨by omega, by omega, (hpw h5).mp (by rw [h4]; exact hp), h5⟩
  · rintro ⟨h1, h2, h3, h4⟩
    exact ⟨⟨by omega, by omega⟩, hin.mpr h4, sorted_same ((hpw h4).mpr h3) hp fun k => (hm k).symm⟩
theorem pure_are_letters {mg : Str → Option Value} {w : World} (B : Bx) (T : Tx w B.K mg) (W : WX) (ds : List D) (R : Sl → Prop) (X : Xc → Prop) (h : F_are_letters B.K ds R X) : Sv B W (t_are_letters w B.K W) (ini N_are_letters ds) { nx := fun _ => R (.dat .non), rt := R, xc := fun x _ => X x } := by
  obtain ⟨ls, b, rfl, hl, hb, hR⟩ := h
  show Sv B W (t_are_letters w B.K W) [.dat (.str (tx ls)), .un, .un] _
  unfold t_are_letters
  let ns : List Int := ls.map plc
  refine sv_seq (sv_set (d := .lst (ns.map .int)) ?_ (by walk_at "at") ?_)
  · have e : ns.map D.int = ls.map fun c : Nat => D.int (plc c) := by show (ls.map _).map _ = _; rw [List.map_map]; rfl
    rw [e]
    exact Ev.of_own (evo_map1 (fun c : Nat => D.str (tx [c])) ls (fun c : Nat => .int (plc c)) (by walk_at "ev") (Nat.le_of_ble_eq_true rfl) (by omega) fun c hc => ev_eq (ev_bmT (by walk_at "ev") (by walk_at "ev") rm_find) (by rw [find_al]))
  have hlen : ns.length < 60 := by show (ls.map _).length < 60; rw [List.length_map]; omega
  obtain ⟨ms, hp, hm⟩ := set_sorted ns
  refine sv_retD (e := .bl b) (ev_and (ev_chain (by walk_at "ev") (by walk_at "ev") rv_le (fun _ => by walk_at "ev") fun _ => rv_le) fun _ => ev_and (ev_op (by walk_at "ev") (by walk_at "ev") rv_ninI) fun _ => ev_op (by walk_at "ev") (ev_sortset rfl (by walk_at "ev") hlen hp hm) rv_eqInts) hR ?_
  congr 1
  rw [Bool.eq_iff_iff, hb]
  exact right_iff hp hm
theorem pure_check_letters {mg : Str → Option Value} {w : World} (B : Bx) (T : Tx w B.K mg) (W : WX) (ds : List D) (R : Sl → Prop) (X : Xc → Prop) (h : F_check_letters B.K ds R X) : Sv B W (t_check_letters w B.K W) (ini N_check_letters ds) { nx := fun _ => R (.dat .non), rt := R, xc := fun x _ => X x } := by
  obtain ⟨ls, rfl, hl, hR, hX⟩ := h
  show Sv B W (t_check_letters w B.K W) [.dat (.str (tx ls))] _
  unfold t_check_letters
  by_cases hr : Right ls
  · exact sv_if (p := false) (evt_eq (evt_not (p := true) (evt_b (ev_callS (by walk_at "ev") ⟨ls, true, rfl, hl, by simp [hr], rfl⟩))) rfl) (fun h => nomatch h) fun _ => sv_next (hR hr)
  · exact sv_if (p := true) (evt_eq (evt_not (p := false) (evt_b (ev_callS (by walk_at "ev") ⟨ls, false, rfl, hl, by simp [hr], rfl⟩))) rfl) (fun _ => sv_raise1 (by walk_at "ev") (hX hr)) fun h => nomatch h
theorem kitAny2 {K : PySem.W.Frag} (s t : String) (u : Value) (p : Bool) (h1 : PySem.W.kitOne K u (.type s) = some false) (h2 : PySem.W.kitOne K u (.type t) = some p) : PySem.W.kitAny K u [.type s, .type t] = some p := by
  unfold PySem.W.kitAny
  rw [h1]
  simp [PySem.W.kitAny, h2]
  cases p <;> simp
theorem pure_frozen {mg : Str → Option Value} {w : World} (n : Nat) (B : Bx) (T : Tx w B.K mg) (W : WX) (ds : List D) (R : Sl → Prop) (X : Xc → Prop) (h : F_frozen (n + 1) B.K ds R X) : Sv B W (t_frozen n w B.K W) (ini N_frozen ds) { nx := fun _ => R (.dat .non), rt := R, xc := fun x _ => X x } := by
  obtain ⟨d, rfl, hd, hR⟩ := h
  show Sv B W (t_frozen n w B.K W) [.dat d, .un] _
  unfold t_frozen
  have flat : ∀ (t : Value), d.tyv = some t → PySem.W.kitAny B.K t [.type "list", .type "tuple"] = some false → frzD (n + 1) d = d → Sv B W (tSeq (tIfS (tB (tCB (zIsi2 B.K) (tCons (tVar 0) (tCons (tTup (tCons (tC (.ty "list")) (tCons (tC (.ty "tuple")) tNil))) tNil)))) (tRet (tCB (zTuple B.K) (tCons (tLc (iSeq B.K (tVar 0)) (gName 1) tYes (tCall (spz B.K (F_frozen n B.K)) [] E0 (tCons (tVar 1) tNil)) [1]) tNil))) tNext)
      (tRet (tVar 0))) [.dat d, .un] { nx := fun _ => R (.dat .non), rt := R, xc := fun x _ => X x } := fun t ht hk e => by
    refine sv_seq (sv_if (p := false) (evt_b (ev_isiT (tu := tVar 0) (by walk_at "ev") ht hk)) (fun h => nomatch h) fun _ => sv_next (sv_ret (by walk_at "ev") ?_))
    rw [e] at hR
    exact hR
  have item : ∀ l : List D, l.all (okD n) = true → ∀ x ∈ l, F_frozen n B.K [x] (fun s => s.toD = some (frzD n x)) (fun _ => False) := fun l h x hx => by
    have hx2 := List.all_eq_true.mp h x hx
    cases n with
    | zero => cases hx2
    | succ n => exact ⟨x, rfl, hx2, rfl⟩
  cases d with
  | non => exact flat _ rfl (by rfl) rfl
  | bl b => exact flat _ rfl (by rfl) rfl
  | int i => exact flat _ rfl (by rfl) rfl
  | str x => exact flat _ rfl (by rfl) rfl
  | lst l =>
    have hd : (decide (l.length < 16777216) && l.all (okD n)) = true := hd
    rw [Bool.and_eq_true] at hd
    refine sv_seq (sv_if (p := true) (evt_b (ev_isiT (tu := tVar 0) (by walk_at "ev") rfl (by rfl))) (fun _ => ?_) fun h => nomatch h)
    refine sv_retD (d := .tup (l.map (frzD n))) (ev_cb (eva_cons (Ev.of_own (evo_map1 id l (frzD n) (by rw [List.map_id]; exact evi_seqL (by walk_at "ev")) (Nat.le_of_ble_eq_true rfl) (of_decide_eq_true hd.1) fun x hx => ?_)) eva_nil) rc_tupleL) hR
    exact ev_call (by walk_at "ev") (item l hd.2 x hx)
  | tup l =>
    have hd : (decide (l.length < 16777216) && l.all (okD n)) = true := hd
    rw [Bool.and_eq_true] at hd
    refine sv_seq (sv_if (p := true) (evt_b (ev_isiT (tu := tVar 0) (by walk_at "ev") rfl (by rfl))) (fun _ => ?_) fun h => nomatch h)
    refine sv_retD (d := .tup (l.map (frzD n))) (ev_cb (eva_cons (Ev.of_own (evo_map1 id l (frzD n) (by rw [List.map_id]; exact evi_seqU (by walk_at "ev")) (Nat.le_of_ble_eq_true rfl) (of_decide_eq_true hd.1) fun x hx => ?_)) eva_nil) rc_tupleL) hR
    exact ev_call (by walk_at "ev") (item l hd.2 x hx)
  | obj => cases hd
  | ty => cases hd
  | ref => cases hd
  | xc => cases hd
  | dk => cases hd
theorem pure_is_whole {mg : Str → Option Value} {w : World} (B : Bx) (T : Tx w B.K mg) (W : WX) (ds : List D) (R : Sl → Prop) (X : Xc → Prop) (h : F_is_whole B.K ds R X) : Sv B W (t_is_whole w B.K W) (ini N_is_whole ds) { nx := fun _ => R (.dat .non), rt := R, xc := fun x _ => X x } := by
  obtain ⟨d, rfl, hd, hR⟩ := h
  show Sv B W (t_is_whole w B.K W) [.dat d] _
  unfold t_is_whole
  cases d with
  | int i => exact sv_retD (ev_and (p := true) (q := true) (by walk_at "ev") fun _ => ev_not (p := false) (by walk_at "ev")) hR
  | bl b => exact sv_retD (ev_and (p := true) (q := false) (by walk_at "ev") fun _ => ev_not (p := true) (by walk_at "ev")) hR
  | str x => exact sv_retD (ev_and (p := false) (q := true) (by walk_at "ev") fun h => nomatch h) hR
  | non => exact sv_retD (ev_and (p := false) (q := true) (by walk_at "ev") fun h => nomatch h) hR
  | _ => cases hd
theorem pure__law_whole {mg : Str → Option Value} {w : World} (B : Bx) (T : Tx w B.K mg) (W : WX) (ds : List D) (R : Sl → Prop) (X : Xc → Prop) (h : F__law_whole B.K ds R X) : Sv B W (t__law_whole w B.K W) (ini N__law_whole ds) { nx := fun _ => R (.dat .non), rt := R, xc := fun x _ => X x } := by
  obtain ⟨d, rfl, hd, hR⟩ := h
  show Sv B W (t__law_whole w B.K W) [.dat d] _
  unfold t__law_whole
  cases d with
  | int i => exact sv_retD (ev_and (p := true) (q := true) (by walk_at "ev") fun _ => ev_not (p := false) (by walk_at "ev")) hR
  | bl b => exact sv_retD (ev_and (p := true) (q := false) (by walk_at "ev") fun _ => ev_not (p := true) (by walk_at "ev")) hR
  | str x => exact sv_retD (ev_and (p := false) (q := true) (by walk_at "ev") fun h => nomatch h) hR
  | non => exact sv_retD (ev_and (p := false) (q := true) (by walk_at "ev") fun h => nomatch h) hR
  | _ => cases hd

end L

namespace L
open PySem PySem.Spec PyProof.Rows L2 Z
local macro_rules | `(tactic| walk_at "at") => `(tactic| first | with_reducible exact SetAt.zero | ((with_reducible apply SetAt.succ); walk_at "at"))
local macro_rules | `(tactic| walk_at "sd") => `(tactic| first | (with_reducible assumption) | omega | (simp only [rep_length, List.length_append, List.length_cons, List.length_nil, List.length_map, List.length_replicate, List.length_range, List.length_take, List.length_reverse] <;> omega) | decide | exact Nat.le_of_ble_eq_true rfl)
local macro_rules | `(tactic| walk_at "cm") => `(tactic| first | (with_reducible assumption) | (refine cmul_s ?_ ?_ ?_ ?_ <;> first | omega | decide))
local macro_rules | `(tactic| walk_at "rv") => `(tactic| first
  | with_reducible exact rv_add | ((with_reducible apply rv_addT); walk_at "sd") | ((with_reducible apply rv_addL); walk_at "sd") | ((with_reducible apply rv_addU); walk_at "sd")
  | with_reducible exact rv_sub | ((with_reducible apply rv_mul); walk_at "cm") | ((with_reducible apply rv_mulT) <;> walk_at "sd")
  | ((with_reducible apply rv_div); first | assumption | exact cdiv_s (by walk_at "sd") (by walk_at "sd")) | ((with_reducible apply rv_mod); walk_at "sd") | ((with_reducible apply rv_pow); exact ⟨by decide, by decide, by decide⟩)
  | with_reducible exact rv_lt | with_reducible exact rv_le | with_reducible exact rv_gt | with_reducible exact rv_ge
  | with_reducible exact rv_eqI | with_reducible exact rv_eqT | with_reducible exact rv_eqB | with_reducible exact rv_neI | with_reducible exact rv_neT | with_reducible exact rv_neB
  | ((with_reducible apply rv_ixL); first | with_reducible assumption | exact rfl) | ((with_reducible apply rv_ixU); first | with_reducible assumption | exact rfl) | ((with_reducible apply rv_ixT); (focus (first | with_reducible assumption | exact rfl)); walk_at "sd")
  | with_reducible exact rv_isN | with_reducible exact rv_isN' | with_reducible exact rv_notN'
  | with_reducible exact rv_inT | with_reducible exact rv_ninT | with_reducible exact rv_inTs | with_reducible exact rv_ninTs | with_reducible assumption)
local macro_rules | `(tactic| walk_at "rc") => `(tactic| first | with_reducible exact rc_int | with_reducible exact rc_intB | with_reducible exact rc_lenL | with_reducible exact rc_lenU | ((with_reducible apply rc_lenT); walk_at "sd") | with_reducible exact rc_min | with_reducible exact rc_tupleL | with_reducible exact rc_tupleU | with_reducible exact rc_listL | with_reducible exact rc_listU | with_reducible exact rc_max | ((with_reducible apply rc_isi); (focus (exact rfl)); first | with_reducible exact kitT | with_reducible exact kit_NoneType_int | with_reducible exact kit_NoneType_bool | with_reducible exact kit_NoneType_str | with_reducible exact kit_NoneType_list | with_reducible exact kit_NoneType_tuple | with_reducible exact kit_bool_int | with_reducible exact kit_bool_bool | with_reducible exact kit_bool_str | with_reducible exact kit_bool_list | with_reducible exact kit_bool_tuple | with_reducible exact kit_int_int | with_reducible exact kit_int_bool | with_reducible exact kit_int_str | with_reducible exact kit_int_list | with_reducible exact kit_int_tuple | with_reducible exact kit_str_int | with_reducible exact kit_str_bool | with_reducible exact kit_str_str | with_reducible exact kit_str_list | with_reducible exact kit_str_tuple | with_reducible exact kit_list_int | with_reducible exact kit_list_bool | with_reducible exact kit_list_str | with_reducible exact kit_list_list | with_reducible exact kit_list_tuple | with_reducible exact kit_tuple_int | with_reducible exact kit_tuple_bool | with_reducible exact kit_tuple_str | with_reducible exact kit_tuple_list | with_reducible exact kit_tuple_tuple | assumption | rfl) | with_reducible assumption)
local macro_rules | `(tactic| walk_at "rs") => `(tactic| first | with_reducible exact rs_slL | with_reducible exact rs_slU | ((with_reducible apply rs_slT); walk_at "sd"))
local macro_rules | `(tactic| walk_at "ru") => `(tactic| first | ((with_reducible apply ru_rev); walk_at "sd") | with_reducible exact ru_neg)
local macro_rules | `(tactic| walk_at "rm") => `(tactic| first | with_reducible exact rm_count | with_reducible assumption)
local macro_rules | `(tactic| walk_at "eo") => `(tactic| first
  | ((with_reducible apply evo_lstX); (focus (walk_at "ev")); exact Nat.le_of_ble_eq_true rfl)
  | ((with_reducible apply evo_callS); (focus (walk_at "ev")); (focus (walk_at "fn")))
  | ((with_reducible apply evo_addL rfl); (focus (walk_at "ev")); (focus (walk_at "ev")); walk_at "sd")
  | ((with_reducible apply evo_listL rfl); walk_at "ev") | ((with_reducible apply evo_listU rfl); walk_at "ev")
  | with_reducible assumption)
local macro_rules | `(tactic| walk_at "ev") => `(tactic| first
  | (with_reducible assumption)
  | ((with_reducible apply ev_var); exact rfl)
  | with_reducible exact ev_int | with_reducible exact ev_str | with_reducible exact ev_bl | with_reducible exact ev_non | with_reducible exact ev_ty | with_reducible exact ev_ref
  | with_reducible exact eva_nil
  | ((with_reducible apply eva_cons); (focus (walk_at "ev")); (focus (walk_at "ev")))
  | ((with_reducible apply ev_op); (focus (walk_at "ev")); (focus (walk_at "ev")); (focus (walk_at "rv")))
  | ((with_reducible apply ev_cb); (focus (walk_at "ev")); (focus (walk_at "rc")))
  | ((with_reducible apply evt_test); (focus (walk_at "ev")))
  | ((with_reducible apply evt_b); (focus (walk_at "ev")))
  | ((with_reducible apply evt_not); (focus (walk_at "ev")))
  | ((with_reducible apply evt_and); (focus (walk_at "ev")); (focus (intro _; walk_at "ev")))
  | ((with_reducible apply evt_or); (focus (walk_at "ev")); (focus (intro _; walk_at "ev")))
  | with_reducible exact evt_yes
  | ((with_reducible apply ev_and); (focus (walk_at "ev")); (focus (intro _; walk_at "ev")))
  | ((with_reducible apply ev_or); (focus (walk_at "ev")); (focus (intro _; walk_at "ev")))
  | ((with_reducible apply ev_not); (focus (walk_at "ev")))
  | ((with_reducible apply ev_callS); (focus (walk_at "ev")); (focus (walk_at "fn")))
  | ((with_reducible apply ev_call); (focus (walk_at "ev")); (focus (walk_at "fn")))
  | ((with_reducible apply ev_tupX); (focus (walk_at "ev")); exact Nat.le_of_ble_eq_true rfl)
  | with_reducible exact evp_none
  | ((with_reducible apply evp_some); (focus (walk_at "ev")))
  | ((with_reducible apply ev_sl); (focus (walk_at "ev")); (focus (walk_at "ev")); (focus (walk_at "ev")); (focus (walk_at "rs")))
  | ((with_reducible apply ev_un); (focus (walk_at "ev")); (focus (walk_at "ru")))
  | ((with_reducible apply ev_bmT); (focus (walk_at "ev")); (focus (walk_at "ev")); (focus (walk_at "rm")))
  | ((with_reducible apply ev_bmT0); (focus (walk_at "ev")); (focus (walk_at "rm")))
  | ((with_reducible apply evi_list); (focus (walk_at "ev")))
  | ((with_reducible apply evi_tup); (focus (walk_at "ev")))
  | ((with_reducible apply evi_str); (focus (walk_at "ev")))
  | ((with_reducible apply evi_rng1); (focus (walk_at "ev")); (focus (constructor <;> walk_at "sd")))
  | ((with_reducible apply evi_rng2); (focus (walk_at "ev")); (focus (constructor <;> walk_at "sd")); (focus (constructor <;> walk_at "sd")))
  | ((with_reducible apply Ev.of_own); walk_at "eo")
  | with_reducible assumption)
local macro_rules | `(tactic| walk_at "st") => `(tactic| repeat (first
  | (with_reducible apply sv_seq)
  | ((with_reducible apply sv_set); (focus (walk_at "ev")); (focus (walk_at "at")))
  | ((with_reducible apply sv_drop); (focus (walk_at "ev")))
  | (with_reducible apply sv_next)))
local macro_rules | `(tactic| walk_at "eq") => `(tactic| (with_reducible apply ev_eq); (focus (walk_at "ev")); rfl)
theorem in3 (a : Int) : inV (toV (.int a)) (([D.int (-1), .int 0, .int 1]).map toV) = (decide (-1 ≤ a) && decide (a ≤ 1)) := by
  have h := inV_int a [-1, 0, 1]
  have e : ([-1, 0, 1] : List Int).map D.int = [D.int (-1), .int 0, .int 1] := rfl
  rw [e] at h
  show inV (.int a) _ = _
  rw [h, Bool.eq_iff_iff]
  simp
  omega
theorem isI_int {d : D} (h : isI d = true) : ∃ a, d = .int a := by
  unfold isI at h
  split at h
  · exact ⟨_, rfl⟩
  · cases h
theorem pure_is_two_option {mg : Str → Option Value} {w : World} (B : Bx) (T : Tx w B.K mg) (W : WX) (ds : List D) (R : Sl → Prop) (X : Xc → Prop) (h : F_is_two_option B.K ds R X) : Sv B W (t_is_two_option w B.K W) (ini N_is_two_option ds) { nx := fun _ => R (.dat .non), rt := R, xc := fun x _ => X x } := by
  obtain ⟨d, sec, st, rfl, hd, hR⟩ := h
  show Sv B W (t_is_two_option w B.K W) [.dat d, .dat (.int sec), .dat (.int st), .un, .un, .un, .un, .un] _
  unfold t_is_two_option
  rcases hd with hd | ⟨l, rfl, hl, hf⟩
  · cases d with
    | bl b =>
      cases b with
      | true => exact sv_seq (sv_if (p := true) (evt_or (p := true) (q := true) (evt_test (ev_op (b := .bl true) (by walk_at "ev") (by walk_at "ev") rv_isB)) fun h => nomatch h) (fun _ => sv_retD (by walk_at "ev") hR) fun h => nomatch h)
      | false => exact sv_seq (sv_if (p := true) (evt_or (p := false) (q := true) (evt_test (ev_op (b := .bl true) (by walk_at "ev") (by walk_at "ev") rv_isB)) fun _ => evt_test (ev_op (b := .bl false) (by walk_at "ev") (by walk_at "ev") rv_isB)) (fun _ => sv_retD (by walk_at "ev") hR) fun h => nomatch h)
    | int i =>
      refine sv_seq (sv_if (p := false) (evt_or (p := false) (q := false) (evt_test (ev_op (b := .bl true) (by walk_at "ev") (by walk_at "ev") rv_isB)) fun _ => evt_test (ev_op (b := .bl false) (by walk_at "ev") (by walk_at "ev") rv_isB)) (fun h => nomatch h) fun _ => sv_next ?_)
      exact sv_seq (sv_if (p := true) (evt_or (p := true) (q := true) (evt_eq (evt_not (p := false) (evt_b (by walk_at "ev"))) rfl) fun h => nomatch h) (fun _ => sv_retD (by walk_at "ev") hR) fun h => nomatch h)
    | str x =>
      refine sv_seq (sv_if (p := false) (evt_or (p := false) (q := false) (evt_test (ev_op (b := .bl true) (by walk_at "ev") (by walk_at "ev") rv_isB)) fun _ => evt_test (ev_op (b := .bl false) (by walk_at "ev") (by walk_at "ev") rv_isB)) (fun h => nomatch h) fun _ => sv_next ?_)
      exact sv_seq (sv_if (p := true) (evt_or (p := true) (q := true) (evt_eq (evt_not (p := false) (evt_b (by walk_at "ev"))) rfl) fun h => nomatch h) (fun _ => sv_retD (by walk_at "ev") hR) fun h => nomatch h)
    | non =>
      refine sv_seq (sv_if (p := false) (evt_or (p := false) (q := false) (evt_test (ev_op (b := .bl true) (by walk_at "ev") (by walk_at "ev") rv_isB)) fun _ => evt_test (ev_op (b := .bl false) (by walk_at "ev") (by walk_at "ev") rv_isB)) (fun h => nomatch h) fun _ => sv_next ?_)
      exact sv_seq (sv_if (p := true) (evt_or (p := true) (q := true) (evt_eq (evt_not (p := false) (evt_b (by walk_at "ev"))) rfl) fun h => nomatch h) (fun _ => sv_retD (by walk_at "ev") hR) fun h => nomatch h)
    | _ => cases hd
  · have hb : EvT B (tOr (tTest (tOp zIsB (tVar 0) (tC (.bl true)))) (tTest (tOp zIsB (tVar 0) (tC (.bl false))))) [.dat (.tup l), .dat (.int sec), .dat (.int st), .un, .un, .un, .un, .un] false := evt_or (p := false) (q := false) (evt_test (ev_op (b := .bl true) (by walk_at "ev") (by walk_at "ev") rv_isB)) fun _ => evt_test (ev_op (b := .bl false) (by walk_at "ev") (by walk_at "ev") rv_isB)
    refine sv_seq (sv_if hb (fun h => nomatch h) fun _ => sv_next ?_)
    have hall : Ev B (tCB (zAll B.K) (tCons (tLc (iTup B.K (tVar 0)) (gName 7) tYes (tCall (spz B.K (F_is_whole B.K)) [] E0 (tCons (tVar 7) tNil)) [7]) tNil)) [.dat (.tup l), .dat (.int sec), .dat (.int st), .un, .un, .un, .un, .un] (.bl ((l.map isI).all id)) := by
      refine ev_cb (eva_cons (Ev.of_own (xs := (l.map isI).map D.bl) ?_) eva_nil) rc_all
      have := evo_map1 (B := B) (wi := iTup B.K (tVar 0)) (Γ := [.dat (.tup l), .dat (.int sec), .dat (.int st), .un, .un, .un, .un, .un]) (te := tCall (spz B.K (F_is_whole B.K)) [] E0 (tCons (tVar 7) tNil)) (i := 7) id l (fun d => D.bl (isI d)) (by rw [List.map_id]; exact evi_tup (ev_var rfl)) (Nat.le_of_ble_eq_true rfl) (by omega) fun d hd => ev_call (eva_cons (ev_var rfl) eva_nil) ⟨d, rfl, List.all_eq_true.mp hf d hd, rfl⟩
      rw [List.map_map]
      exact this
    by_cases h4 : l.length = 4
    · obtain ⟨x, y, z, u, rfl⟩ := list4 h4
      cases ha : ([x, y, z, u].map isI).all id with
      | false =>
        have er : rightO sec st (.tup [x, y, z, u]) = false := by
          cases q : rightO sec st (.tup [x, y, z, u]) with
          | false => rfl
          | true =>
            rcases right_cases q with ⟨b, e⟩ | ⟨a, b, c, e, e1, _⟩
            · cases e
            · cases e1; cases ha
        rw [er] at hR
        exact sv_seq (sv_if (p := true) (evt_eq (evt_or (p := false) (evt_eq (evt_not (p := true) (evt_b (by walk_at "ev"))) rfl) fun _ => evt_or (by walk_at "ev") fun _ => evt_not (evt_b hall)) (by rw [ha]; rfl)) (fun _ => sv_retD (by walk_at "ev") hR) fun h => nomatch h)
      | true =>
        obtain ⟨a, b, c, e, e1⟩ : ∃ a b c e : Int, [x, y, z, u] = [D.int a, .int b, .int c, .int e] := by
          have ha' := ha
          simp only [List.map_cons, List.map_nil, List.all_cons, List.all_nil, id, Bool.and_eq_true] at ha'
          obtain ⟨h1, h2, h3, h5, _⟩ := ha'
          obtain ⟨a, rfl⟩ := isI_int h1
          obtain ⟨b, rfl⟩ := isI_int h2
          obtain ⟨c, rfl⟩ := isI_int h3
          obtain ⟨e, rfl⟩ := isI_int h5
          exact ⟨_, _, _, _, rfl⟩
        refine sv_seq (sv_if (p := false) (evt_eq (evt_or (p := false) (evt_eq (evt_not (p := true) (evt_b (by walk_at "ev"))) rfl) fun _ => evt_or (by walk_at "ev") fun _ => evt_not (evt_b hall)) (by rw [ha]; rfl)) (fun h => nomatch h) fun _ => sv_next ?_)
        rw [e1] at hR ⊢
        refine sv_seq (sv_asg (ev_var rfl) (evg_tup (evgs_cons (evg_name (by walk_at "at")) (evgs_cons (evg_name (by walk_at "at")) (evgs_cons (evg_name (by walk_at "at")) (evgs_cons (evg_name (by walk_at "at")) evgs_nil)))) rfl) ?_)
        have er : rightO sec st (.tup [.int a, .int b, .int c, .int e]) = (decide (-1 ≤ a) && decide (a ≤ 1) && (decide (-1 ≤ c) && decide (c ≤ 1)) && (decide (0 ≤ b) && decide (b < sec)) && (decide (0 ≤ e) && decide (e < st))) := rfl
        rw [er] at hR
        refine sv_seq (sv_if (evt_or (evt_test (ev_op (by walk_at "ev") (by walk_at "ev") (rv_ninFU rfl rfl))) fun _ => evt_test (ev_op (by walk_at "ev") (by walk_at "ev") (rv_ninFU rfl rfl))) (fun h => ?_) fun h => ?_)
        · rw [in3, in3] at h
          refine sv_retD (by walk_at "ev") hR (congrArg D.bl ?_)
          revert h
          cases decide (-1 ≤ a) && decide (a ≤ 1) <;> cases decide (-1 ≤ c) && decide (c ≤ 1) <;> simp
        · rw [in3, in3] at h
          refine sv_next (sv_retD (ev_and (ev_chain (by walk_at "ev") (by walk_at "ev") rv_le (fun _ => by walk_at "ev") fun _ => rv_lt) fun _ => ev_chain (by walk_at "ev") (by walk_at "ev") rv_le (fun _ => by walk_at "ev") fun _ => rv_lt) hR (congrArg D.bl ?_))
          revert h
          cases decide (-1 ≤ a) && decide (a ≤ 1) <;> cases decide (-1 ≤ c) && decide (c ≤ 1) <;> simp
    · have er : rightO sec st (.tup l) = false := by
        cases q : rightO sec st (.tup l) with
        | false => rfl
        | true =>
          rcases right_cases q with ⟨b, e⟩ | ⟨a, b, c, e, e1, _⟩
          · cases e
          · cases e1; exact absurd rfl h4
      rw [er] at hR
      exact sv_seq (sv_if (p := true) (evt_eq (evt_or (p := false) (evt_eq (evt_not (p := true) (evt_b (by walk_at "ev"))) rfl) fun _ => evt_or (p := true) (q := true) (evt_eq (by walk_at "ev") (by rw [decide_eq_false (by omega)]; rfl)) fun h => nomatch h) rfl) (fun _ => sv_retD (by walk_at "ev") hR) fun h => nomatch h)

end L

namespace L
open PySem PySem.Spec PyProof.Rows L2 Z
local macro_rules | `(tactic| walk_at "at") => `(tactic| first | with_reducible exact SetAt.zero | ((with_reducible apply SetAt.succ); walk_at "at"))
local macro_rules | `(tactic| walk_at "sd") => `(tactic| first | (with_reducible assumption) | omega | (simp only [rep_length, List.length_append, List.length_cons, List.length_nil, List.length_map, List.length_replicate, List.length_range, List.length_take, List.length_reverse] <;> omega) | decide | exact Nat.le_of_ble_eq_true rfl)
local macro_rules | `(tactic| walk_at "cm") => `(tactic| first | (with_reducible assumption) | (refine cmul_s ?_ ?_ ?_ ?_ <;> first | omega | decide))
local macro_rules | `(tactic| walk_at "rv") => `(tactic| first
  | with_reducible exact rv_add | ((with_reducible apply rv_addT); walk_at "sd") | ((with_reducible apply rv_addL); walk_at "sd") | ((with_reducible apply rv_addU); walk_at "sd")
  | with_reducible exact rv_sub | ((with_reducible apply rv_mul); walk_at "cm") | ((with_reducible apply rv_mulT) <;> walk_at "sd")
  | ((with_reducible apply rv_div); first | assumption | exact cdiv_s (by walk_at "sd") (by walk_at "sd")) | ((with_reducible apply rv_mod); walk_at "sd") | ((with_reducible apply rv_pow); exact ⟨by decide, by decide, by decide⟩)
  | with_reducible exact rv_lt | with_reducible exact rv_le | with_reducible exact rv_gt | with_reducible exact rv_ge
  | with_reducible exact rv_eqI | with_reducible exact rv_eqT | with_reducible exact rv_eqB | with_reducible exact rv_neI | with_reducible exact rv_neT | with_reducible exact rv_neB
  | ((with_reducible apply rv_ixL); first | with_reducible assumption | exact rfl) | ((with_reducible apply rv_ixU); first | with_reducible assumption | exact rfl) | ((with_reducible apply rv_ixT); (focus (first | with_reducible assumption | exact rfl)); walk_at "sd")
  | with_reducible exact rv_isN | with_reducible exact rv_isN' | with_reducible exact rv_notN'
  | with_reducible exact rv_inT | with_reducible exact rv_ninT | with_reducible exact rv_inTs | with_reducible exact rv_ninTs | with_reducible assumption)
local macro_rules | `(tactic| walk_at "rc") => `(tactic| first | with_reducible exact rc_int | with_reducible exact rc_intB | with_reducible exact rc_lenL | with_reducible exact rc_lenU | ((with_reducible apply rc_lenT); walk_at "sd") | with_reducible exact rc_min | with_reducible exact rc_tupleL | with_reducible exact rc_tupleU | with_reducible exact rc_listL | with_reducible exact rc_listU | with_reducible exact rc_max | ((with_reducible apply rc_isi); (focus (exact rfl)); first | with_reducible exact kitT | with_reducible exact kit_NoneType_int | with_reducible exact kit_NoneType_bool | with_reducible exact kit_NoneType_str | with_reducible exact kit_NoneType_list | with_reducible exact kit_NoneType_tuple | with_reducible exact kit_bool_int | with_reducible exact kit_bool_bool | with_reducible exact kit_bool_str | with_reducible exact kit_bool_list | with_reducible exact kit_bool_tuple | with_reducible exact kit_int_int | with_reducible exact kit_int_bool | with_reducible exact kit_int_str | with_reducible exact kit_int_list | with_reducible exact kit_int_tuple | with_reducible exact kit_str_int | with_reducible exact kit_str_bool | with_reducible exact kit_str_str | with_reducible exact kit_str_list | with_reducible exact kit_str_tuple | with_reducible exact kit_list_int | with_reducible exact kit_list_bool | with_reducible exact kit_list_str | with_reducible exact kit_list_list | with_reducible exact kit_list_tuple | with_reducible exact kit_tuple_int | with_reducible exact kit_tuple_bool | with_reducible exact kit_tuple_str | with_reducible exact kit_tuple_list | with_reducible exact kit_tuple_tuple | assumption | rfl) | with_reducible assumption)
local macro_rules | `(tactic| walk_at "rs") => `(tactic| first | with_reducible exact rs_slL | with_reducible exact rs_slU | ((with_reducible apply rs_slT); walk_at "sd"))
local macro_rules | `(tactic| walk_at "ru") => `(tactic| first | ((with_reducible apply ru_rev); walk_at "sd") | with_reducible exact ru_neg)
local macro_rules | `(tactic| walk_at "rm") => `(tactic| first | with_reducible exact rm_count | with_reducible assumption)
local macro_rules | `(tactic| walk_at "eo") => `(tactic| first
  | ((with_reducible apply evo_lstX); (focus (walk_at "ev")); exact Nat.le_of_ble_eq_true rfl)
  | ((with_reducible apply evo_callS); (focus (walk_at "ev")); (focus (walk_at "fn")))
  | ((with_reducible apply evo_addL rfl); (focus (walk_at "ev")); (focus (walk_at "ev")); walk_at "sd")
  | ((with_reducible apply evo_listL rfl); walk_at "ev") | ((with_reducible apply evo_listU rfl); walk_at "ev")
  | with_reducible assumption)
local macro_rules | `(tactic| walk_at "ev") => `(tactic| first
  | (with_reducible assumption)
  | ((with_reducible apply ev_var); exact rfl)
  | with_reducible exact ev_int | with_reducible exact ev_str | with_reducible exact ev_bl | with_reducible exact ev_non | with_reducible exact ev_ty | with_reducible exact ev_ref
  | with_reducible exact eva_nil
  | ((with_reducible apply eva_cons); (focus (walk_at "ev")); (focus (walk_at "ev")))
  | ((with_reducible apply ev_op); (focus (walk_at "ev")); (focus (walk_at "ev")); (focus (walk_at "rv")))
  | ((with_reducible apply ev_cb); (focus (walk_at "ev")); (focus (walk_at "rc")))
  | ((with_reducible apply evt_test); (focus (walk_at "ev")))
  | ((with_reducible apply evt_b); (focus (walk_at "ev")))
  | ((with_reducible apply evt_not); (focus (walk_at "ev")))
  | ((with_reducible apply evt_and); (focus (walk_at "ev")); (focus (intro _; walk_at "ev")))
  | ((with_reducible apply evt_or); (focus (walk_at "ev")); (focus (intro _; walk_at "ev")))
  | with_reducible exact evt_yes
  | ((with_reducible apply ev_and); (focus (walk_at "ev")); (focus (intro _; walk_at "ev")))
  | ((with_reducible apply ev_or); (focus (walk_at "ev")); (focus (intro _; walk_at "ev")))
  | ((with_reducible apply ev_not); (focus (walk_at "ev")))
  | ((with_reducible apply ev_callS); (focus (walk_at "ev")); (focus (walk_at "fn")))
  | ((with_reducible apply ev_call); (focus (walk_at "ev")); (focus (walk_at "fn")))
  | ((with_reducible apply ev_tupX); (focus (walk_at "ev")); exact Nat.le_of_ble_eq_true rfl)
  | with_reducible exact evp_none
  | ((with_reducible apply evp_some); (focus (walk_at "ev")))
  | ((with_reducible apply ev_sl); (focus (walk_at "ev")); (focus (walk_at "ev")); (focus (walk_at "ev")); (focus (walk_at "rs")))
  | ((with_reducible apply ev_un); (focus (walk_at "ev")); (focus (walk_at "ru")))
  | ((with_reducible apply ev_bmT); (focus (walk_at "ev")); (focus (walk_at "ev")); (focus (walk_at "rm")))
  | ((with_reducible apply ev_bmT0); (focus (walk_at "ev")); (focus (walk_at "rm")))
  | ((with_reducible apply evi_list); (focus (walk_at "ev")))
  | ((with_reducible apply evi_tup); (focus (walk_at "ev")))
  | ((with_reducible apply evi_str); (focus (walk_at "ev")))
  | ((with_reducible apply evi_rng1); (focus (walk_at "ev")); (focus (constructor <;> walk_at "sd")))
  | ((with_reducible apply evi_rng2); (focus (walk_at "ev")); (focus (constructor <;> walk_at "sd")); (focus (constructor <;> walk_at "sd")))
  | ((with_reducible apply Ev.of_own); walk_at "eo")
  | with_reducible assumption)
local macro_rules | `(tactic| walk_at "st") => `(tactic| repeat (first
  | (with_reducible apply sv_seq)
  | ((with_reducible apply sv_set); (focus (walk_at "ev")); (focus (walk_at "at")))
  | ((with_reducible apply sv_drop); (focus (walk_at "ev")))
  | (with_reducible apply sv_next)))
local macro_rules | `(tactic| walk_at "eq") => `(tactic| (with_reducible apply ev_eq); (focus (walk_at "ev")); rfl)
theorem row_false {first sec st : Nat} {it : List (List D)} {os : List D} (h : os ∈ it) (hb : os.length ≠ sec ∨ ∃ d ∈ os, rightO sec st d = false) : rightRow first sec st it = false := by
  unfold rightRow
  rw [Bool.and_eq_false_iff]
  refine .inr ?_
  cases q : it.all fun os => decide (os.length = sec) && os.all (rightO sec st) with
  | false => rfl
  | true =>
    have := List.all_eq_true.mp q os h
    simp only [Bool.and_eq_true, decide_eq_true_eq, List.all_eq_true] at this
    rcases hb with hb | ⟨d, hd, e⟩
    · exact absurd this.1 hb
    · rw [this.2 d hd] at e; cases e
theorem row_true {first sec st : Nat} {it : List (List D)} (h1 : it.length = first) (h : ∀ (i : Nat) (os : List D), it[i]? = some os → os.length = sec ∧ ∀ d ∈ os, rightO sec st d = true) : rightRow first sec st it = true := by
  unfold rightRow
  simp only [Bool.and_eq_true, decide_eq_true_eq, List.all_eq_true]
  refine ⟨h1, fun os hos => ?_⟩
  obtain ⟨i, hi⟩ := List.mem_iff_getElem?.mp hos
  exact h i os hi
theorem wrong_some {first sec i : Nat} {r : Rw} {it : List (List D)} (hi : r[i]? = some it) (hb : rightRow first sec r.length it = false) (hp : ∀ j, j < i → ∀ it : List (List D), r[j]? = some it → rightRow first sec r.length it = true) : wrongAt first sec r = some i := by
  obtain ⟨hl, e⟩ := List.getElem?_eq_some_iff.mp hi
  unfold wrongAt
  rw [if_neg (by omega), List.findIdx?_eq_some_iff_getElem]
  refine ⟨hl, by rw [e, hb]; rfl, fun j hj => ?_⟩
  rw [hp j hj _ (List.getElem?_eq_getElem (by omega))]
  simp
theorem wrong_none {first sec : Nat} {r : Rw} (h0 : r.length ≠ 0) (hp : ∀ j, j < r.length → ∀ it : List (List D), r[j]? = some it → rightRow first sec r.length it = true) : wrongAt first sec r = none := by
  unfold wrongAt
  rw [if_neg h0, List.findIdx?_eq_none_iff]
  intro it hit
  obtain ⟨i, hi⟩ := List.mem_iff_getElem?.mp hit
  rw [hp i (List.getElem?_eq_some_iff.mp hi).1 it hi]; rfl
theorem pure_is_two_row {mg : Str → Option Value} {w : World} (B : Bx) (T : Tx w B.K mg) (W : WX) (ds : List D) (R : Sl → Prop) (X : Xc → Prop) (h : F_is_two_row B.K ds R X) : Sv B W (t_is_two_row w B.K W) (ini N_is_two_row ds) { nx := fun _ => R (.dat .non), rt := R, xc := fun x _ => X x } := by
  obtain ⟨it, first, sec, st, rfl, hl, ho, hR⟩ := h
  show Sv B W (t_is_two_row w B.K W) [.dat (.tup (it.map .tup)), .dat (.int first), .dat (.int sec), .dat (.int st), .un, .un] _
  unfold t_is_two_row
  by_cases h1 : it.length = first
  · refine sv_seq (sv_if (p := false) (evt_eq (evt_or (p := false) (evt_eq (evt_not (p := true) (evt_b (by walk_at "ev"))) rfl) fun _ => by walk_at "ev") (by rw [List.length_map, decide_eq_true (by omega)]; rfl)) (fun h => nomatch h) fun _ => sv_next ?_)
    refine sv_seq (sv_forI (fun os : List D => .tup os) it (evi_tup (by walk_at "ev")) (fun i Γ' => (∀ j, j < i → ∀ os : List D, it[j]? = some os → os.length = sec ∧ ∀ d ∈ os, rightO sec st d = true) ∧ ∃ c4 : Sl, Γ' = [.dat (.tup (it.map .tup)), .dat (.int first), .dat (.int sec), .dat (.int st), c4, .un]) ⟨fun j h => by omega, _, rfl⟩ ?_ ?_)
    · rintro Γ' ⟨hp, c4, rfl⟩
      rw [row_true h1 fun i os h => hp i (List.getElem?_eq_some_iff.mp h).1 os h] at hR
      exact sv_retD (by walk_at "ev") hR
    · rintro i os Γ' hi ⟨hp, c4, rfl⟩
      refine ⟨_, evg_name (by walk_at "at"), ?_⟩
      obtain ⟨l1, o1⟩ := ho os (List.mem_of_getElem? hi)
      by_cases h2 : os.length = sec
      · refine sv_seq (sv_if (p := false) (evt_eq (evt_or (p := false) (evt_eq (evt_not (p := true) (evt_b (by walk_at "ev"))) rfl) fun _ => by walk_at "ev") (by rw [decide_eq_true (by omega)]; rfl)) (fun h => nomatch h) fun _ => sv_next ?_)
        have hall : Ev B (tCB (zAll B.K) (tCons (tLc (iTup B.K (tVar 4)) (gName 5) tYes (tCall (spz B.K (F_is_two_option B.K)) [] E0 (tCons (tVar 5) (tCons (tVar 2) (tCons (tVar 3) tNil)))) [5]) tNil)) [.dat (.tup (it.map .tup)), .dat (.int first), .dat (.int sec), .dat (.int st), .dat (.tup os), .un] (.bl ((os.map (rightO sec st)).all id)) := by
          refine ev_cb (eva_cons (Ev.of_own (xs := (os.map (rightO sec st)).map D.bl) ?_) eva_nil) rc_all
          have := evo_map1 (B := B) (wi := iTup B.K (tVar 4)) (Γ := [.dat (.tup (it.map .tup)), .dat (.int first), .dat (.int sec), .dat (.int st), .dat (.tup os), .un]) (te := tCall (spz B.K (F_is_two_option B.K)) [] E0 (tCons (tVar 5) (tCons (tVar 2) (tCons (tVar 3) tNil)))) (i := 5) id os (fun d => D.bl (rightO sec st d)) (by rw [List.map_id]; exact evi_tup (ev_var rfl)) (Nat.le_of_ble_eq_true rfl) (by omega) fun d hd => ev_call (by walk_at "ev") ⟨d, sec, st, rfl, o1 d hd, rfl⟩
          rw [List.map_map]
          exact this
        refine sv_if (evt_not (evt_b hall)) (fun h => ?_) fun h => sv_next ⟨fun j hj os' h' => ?_, _, rfl⟩
        · have : rightRow first sec st it = false := by
            refine row_false (List.mem_of_getElem? hi) (.inr ?_)
            simp only [Bool.not_eq_eq_eq_not, Bool.not_true, List.all_map, List.all_eq_false] at h
            obtain ⟨d, hd, e⟩ := h
            exact ⟨d, hd, by simpa using e⟩
          rw [this] at hR
          exact sv_retD (by walk_at "ev") hR
        · by_cases hji : j = i
          · subst hji
            rw [hi] at h'; cases h'
            simp only [Bool.not_eq_eq_eq_not, Bool.not_false, List.all_map, List.all_eq_true] at h
            exact ⟨h2, fun d hd => by simpa using h d hd⟩
          · exact hp j (by omega) os' h'
      · have : rightRow first sec st it = false := row_false (List.mem_of_getElem? hi) (.inl h2)
        rw [this] at hR
        exact sv_seq (sv_if (p := true) (evt_eq (evt_or (p := false) (evt_eq (evt_not (p := true) (evt_b (by walk_at "ev"))) rfl) fun _ => by walk_at "ev") (by rw [decide_eq_false (by omega)]; rfl)) (fun _ => sv_retD (by walk_at "ev") hR) fun h => nomatch h)
  · have : rightRow first sec st it = false := by unfold rightRow; rw [decide_eq_false h1]; rfl
    rw [this] at hR
    exact sv_seq (sv_if (p := true) (evt_eq (evt_or (p := false) (evt_eq (evt_not (p := true) (evt_b (by walk_at "ev"))) rfl) fun _ => by walk_at "ev") (by rw [List.length_map, decide_eq_false (by omega)]; rfl)) (fun _ => sv_retD (by walk_at "ev") hR) fun h => nomatch h)
theorem zip_at {α : Type} {l : List α} {i : Nat} {p : α × Nat} (h : l.zipIdx[i]? = some p) : l[i]? = some p.1 ∧ p.2 = i := by
  rw [List.getElem?_zipIdx] at h
  cases q : l[i]? with
  | none => rw [q] at h; cases h
  | some x => rw [q] at h; cases h; simp
theorem pure_TwoTape {mg : Str → Option Value} {w : World} {K : PySem.W.Frag} (T : Tx w K mg) (G H0 : Hp) (a : Addr) (W : WX) (ds : List D) (R : Sl → Prop) (X : Xc → Prop) (h : F_TwoTape K ds R X) : Sv ⟨K, G, H0, NoF⟩ W (t_TwoTape w K W) (iniI N_TwoTape (He.ga K "TwoTape") a ds) { nx := fun Γ => ∃ fs, Γ[0]? = some (.own (.ins (He.ga K "TwoTape") fs (some a))) ∧ R (.own (.ins (He.ga K "TwoTape") fs none)), rt := fun _ => False, xc := fun x _ => X x } := by
  obtain ⟨lt, sec, d, rfl, hl, hX, hr⟩ := h
  show Sv ⟨K, G, H0, NoF⟩ W (t_TwoTape w K W) [.own (.ins (He.ga K "TwoTape") [] (some a)), .dat (.str (tx lt)), .dat (.int sec), .dat d, .un, .un, .un] _
  unfold t_TwoTape
  by_cases hrt : Right lt
  · obtain ⟨r, hok, hfz, hrw, hR, hXt⟩ := hr hrt
    refine sv_seq (sv_drop (ev_callS (by walk_at "ev") ⟨lt, rfl, hl, fun _ => rfl, fun h => absurd hrt h⟩) ?_)
    refine sv_seq (sv_set (d := .tup (r.map fun it => .tup (it.map .tup))) (ev_callS (by walk_at "ev") ⟨_, rfl, hok, by rw [hfz]; rfl⟩) (by walk_at "at") ?_)
    by_cases h0 : r.length = 0
    · refine sv_seq (sv_if (p := true) (evt_eq (by walk_at "ev") (decide_eq_true (by rw [List.length_map]; omega))) (fun _ => svr1 (d := .int 0) (by walk_at "ev") (hXt 0 (by unfold wrongAt; rw [if_pos h0]))) fun h => nomatch h)
    · refine sv_seq (sv_if (p := false) (evt_eq (by walk_at "ev") (decide_eq_false (by rw [List.length_map]; omega))) (fun h => nomatch h) fun _ => sv_next ?_)
      refine sv_seq (sv_forI (fun p : D × Nat => .tup [.int (p.2 : Nat), p.1]) (r.map fun it => .tup (it.map .tup)).zipIdx (evi_enumU (by walk_at "ev")) (fun i Γ' => (∀ j, j < i → ∀ it : List (List D), r[j]? = some it → rightRow (1 + lt.length) sec r.length it = true) ∧ ∃ c5 c6 : Sl, Γ' = [.own (.ins (He.ga K "TwoTape") [] (some a)), .dat (.str (tx lt)), .dat (.int sec), .dat d, .dat (.tup (r.map fun it => .tup (it.map .tup))), c5, c6]) ⟨fun j h => by omega, _, _, rfl⟩ ?_ ?_)
      · rintro Γ' ⟨hp, c5, c6, rfl⟩
        rw [List.length_zipIdx, List.length_map] at hp
        refine sv_seq (sv_fld rfl T.cl_TwoTape T.na_TwoTape_letters (by walk_at "ev") (by decide) (by walk_at "at") ?_)
        refine sv_seq (sv_fld rfl T.cl_TwoTape T.na_TwoTape_second_symbols (by walk_at "ev") (Nat.le_of_ble_eq_true rfl) (by walk_at "at") ?_)
        exact sv_fld rfl T.cl_TwoTape T.na_TwoTape_table (by walk_at "ev") (Nat.le_of_ble_eq_true rfl) (by walk_at "at") ⟨_, rfl, hR (wrong_none h0 hp)⟩
      · rintro i p Γ' hi ⟨hp, c5, c6, rfl⟩
        obtain ⟨h1, h2⟩ := zip_at hi
        rw [List.getElem?_map] at h1
        obtain ⟨it, hit, e⟩ := Option.map_eq_some_iff.mp h1
        refine ⟨_, evg_tup (evgs_cons (evg_name (by walk_at "at")) (evgs_cons (evg_name (by walk_at "at")) evgs_nil)) rfl, ?_⟩
        rw [← e, h2]
        have hm := hrw.2 it (List.mem_of_getElem? hit)
        refine sv_if (evt_not (evt_b (p := rightRow (1 + lt.length) sec r.length it) (ev_callS (eva_cons (by walk_at "ev") (eva_cons (ev_eq (by walk_at "ev") (congrArg D.int (by omega))) (eva_cons (by walk_at "ev") (eva_cons (ev_eq (by walk_at "ev") (congrArg D.int (by rw [List.length_map]))) eva_nil)))) ⟨it, 1 + lt.length, sec, r.length, rfl, by omega, fun os hos => ⟨by have := (hm.2 os hos).1; omega, (hm.2 os hos).2⟩, rfl⟩))) (fun h => ?_) fun h => sv_next ⟨fun j hj it' hj' => ?_, _, _, rfl⟩
        · exact svr1 (by walk_at "ev") (hXt i (wrong_some hit (by simpa using h) hp))
        · by_cases hji : j = i
          · subst hji; rw [hit] at hj'; cases hj'; simpa using h
          · exact hp j (by omega) it' hj'
  · exact sv_seq (svx_drop (evx_call (x := xBLet K lt) (by walk_at "ev") ⟨lt, rfl, hl, fun h => absurd h hrt, fun _ => rfl⟩) (hX hrt))

end L

namespace L
open PySem PySem.Spec PyProof.Rows L2 Z
local macro_rules | `(tactic| walk_at "at") => `(tactic| first | with_reducible exact SetAt.zero | ((with_reducible apply SetAt.succ); walk_at "at"))
local macro_rules | `(tactic| walk_at "sd") => `(tactic| first | (with_reducible assumption) | omega | (simp only [rep_length, List.length_append, List.length_cons, List.length_nil, List.length_map, List.length_replicate, List.length_range, List.length_take, List.length_reverse] <;> omega) | decide | exact Nat.le_of_ble_eq_true rfl)
local macro_rules | `(tactic| walk_at "cm") => `(tactic| first | (with_reducible assumption) | (refine cmul_s ?_ ?_ ?_ ?_ <;> first | omega | decide))
local macro_rules | `(tactic| walk_at "rv") => `(tactic| first
  | with_reducible exact rv_add | ((with_reducible apply rv_addT); walk_at "sd") | ((with_reducible apply rv_addL); walk_at "sd") | ((with_reducible apply rv_addU); walk_at "sd")
  | with_reducible exact rv_sub | ((with_reducible apply rv_mul); walk_at "cm") | ((with_reducible apply rv_mulT) <;> walk_at "sd")
  | ((with_reducible apply rv_div); first | assumption | exact cdiv_s (by walk_at "sd") (by walk_at "sd")) | ((with_reducible apply rv_mod); walk_at "sd") | ((with_reducible apply rv_pow); exact ⟨by decide, by decide, by decide⟩)
  | with_reducible exact rv_lt | with_reducible exact rv_le | with_reducible exact rv_gt | with_reducible exact rv_ge
  | with_reducible exact rv_eqI | with_reducible exact rv_eqT | with_reducible exact rv_eqB | with_reducible exact rv_neI | with_reducible exact rv_neT | with_reducible exact rv_neB
  | ((with_reducible apply rv_ixL); first | with_reducible assumption | exact rfl) | ((with_reducible apply rv_ixU); first | with_reducible assumption | exact rfl) | ((with_reducible apply rv_ixT); (focus (first | with_reducible assumption | exact rfl)); walk_at "sd")
  | with_reducible exact rv_isN | with_reducible exact rv_isN' | with_reducible exact rv_notN'
  | with_reducible exact rv_inT | with_reducible exact rv_ninT | with_reducible exact rv_inTs | with_reducible exact rv_ninTs | with_reducible assumption)
local macro_rules | `(tactic| walk_at "rc") => `(tactic| first | with_reducible exact rc_int | with_reducible exact rc_intB | with_reducible exact rc_lenL | with_reducible exact rc_lenU | ((with_reducible apply rc_lenT); walk_at "sd") | with_reducible exact rc_min | with_reducible exact rc_tupleL | with_reducible exact rc_tupleU | with_reducible exact rc_listL | with_reducible exact rc_listU | with_reducible exact rc_max | ((with_reducible apply rc_isi); (focus (exact rfl)); first | with_reducible exact kitT | with_reducible exact kit_NoneType_int | with_reducible exact kit_NoneType_bool | with_reducible exact kit_NoneType_str | with_reducible exact kit_NoneType_list | with_reducible exact kit_NoneType_tuple | with_reducible exact kit_bool_int | with_reducible exact kit_bool_bool | with_reducible exact kit_bool_str | with_reducible exact kit_bool_list | with_reducible exact kit_bool_tuple | with_reducible exact kit_int_int | with_reducible exact kit_int_bool | with_reducible exact kit_int_str | with_reducible exact kit_int_list | with_reducible exact kit_int_tuple | with_reducible exact kit_str_int | with_reducible exact kit_str_bool | with_reducible exact kit_str_str | with_reducible exact kit_str_list | with_reducible exact kit_str_tuple | with_reducible exact kit_list_int | with_reducible exact kit_list_bool | with_reducible exact kit_list_str | with_reducible exact kit_list_list | with_reducible exact kit_list_tuple | with_reducible exact kit_tuple_int | with_reducible exact kit_tuple_bool | with_reducible exact kit_tuple_str | with_reducible exact kit_tuple_list | with_reducible exact kit_tuple_tuple | assumption | rfl) | with_reducible assumption)
local macro_rules | `(tactic| walk_at "rs") => `(tactic| first | with_reducible exact rs_slL | with_reducible exact rs_slU | ((with_reducible apply rs_slT); walk_at "sd"))
local macro_rules | `(tactic| walk_at "ru") => `(tactic| first | ((with_reducible apply ru_rev); walk_at "sd") | with_reducible exact ru_neg)
local macro_rules | `(tactic| walk_at "rm") => `(tactic| first | with_reducible exact rm_count | with_reducible assumption)
local macro_rules | `(tactic| walk_at "eo") => `(tactic| first
  | ((with_reducible apply evo_lstX); (focus (walk_at "ev")); exact Nat.le_of_ble_eq_true rfl)
  | ((with_reducible apply evo_callS); (focus (walk_at "ev")); (focus (walk_at "fn")))
  | ((with_reducible apply evo_addL rfl); (focus (walk_at "ev")); (focus (walk_at "ev")); walk_at "sd")
  | ((with_reducible apply evo_listL rfl); walk_at "ev") | ((with_reducible apply evo_listU rfl); walk_at "ev")
  | with_reducible assumption)
local macro_rules | `(tactic| walk_at "ev") => `(tactic| first
  | (with_reducible assumption)
  | ((with_reducible apply ev_var); exact rfl)
  | with_reducible exact ev_int | with_reducible exact ev_str | with_reducible exact ev_bl | with_reducible exact ev_non | with_reducible exact ev_ty | with_reducible exact ev_ref
  | with_reducible exact eva_nil
  | ((with_reducible apply eva_cons); (focus (walk_at "ev")); (focus (walk_at "ev")))
  | ((with_reducible apply ev_op); (focus (walk_at "ev")); (focus (walk_at "ev")); (focus (walk_at "rv")))
  | ((with_reducible apply ev_cb); (focus (walk_at "ev")); (focus (walk_at "rc")))
  | ((with_reducible apply evt_test); (focus (walk_at "ev")))
  | ((with_reducible apply evt_b); (focus (walk_at "ev")))
  | ((with_reducible apply evt_not); (focus (walk_at "ev")))
  | ((with_reducible apply evt_and); (focus (walk_at "ev")); (focus (intro _; walk_at "ev")))
  | ((with_reducible apply evt_or); (focus (walk_at "ev")); (focus (intro _; walk_at "ev")))
  | with_reducible exact evt_yes
  | ((with_reducible apply ev_and); (focus (walk_at "ev")); (focus (intro _; walk_at "ev")))
  | ((with_reducible apply ev_or); (focus (walk_at "ev")); (focus (intro _; walk_at "ev")))
  | ((with_reducible apply ev_not); (focus (walk_at "ev")))
  | ((with_reducible apply ev_callS); (focus (walk_at "ev")); (focus (walk_at "fn")))
  | ((with_reducible apply ev_call); (focus (walk_at "ev")); (focus (walk_at "fn")))
  | ((with_reducible apply ev_tupX); (focus (walk_at "ev")); exact Nat.le_of_ble_eq_true rfl)
  | with_reducible exact evp_none
  | ((with_reducible apply evp_some); (focus (walk_at "ev")))
  | ((with_reducible apply ev_sl); (focus (walk_at "ev")); (focus (walk_at "ev")); (focus (walk_at "ev")); (focus (walk_at "rs")))
  | ((with_reducible apply ev_un); (focus (walk_at "ev")); (focus (walk_at "ru")))
  | ((with_reducible apply ev_bmT); (focus (walk_at "ev")); (focus (walk_at "ev")); (focus (walk_at "rm")))
  | ((with_reducible apply ev_bmT0); (focus (walk_at "ev")); (focus (walk_at "rm")))
  | ((with_reducible apply evi_list); (focus (walk_at "ev")))
  | ((with_reducible apply evi_tup); (focus (walk_at "ev")))
  | ((with_reducible apply evi_str); (focus (walk_at "ev")))
  | ((with_reducible apply evi_rng1); (focus (walk_at "ev")); (focus (constructor <;> walk_at "sd")))
  | ((with_reducible apply evi_rng2); (focus (walk_at "ev")); (focus (constructor <;> walk_at "sd")); (focus (constructor <;> walk_at "sd")))
  | ((with_reducible apply Ev.of_own); walk_at "eo")
  | with_reducible assumption)
local macro_rules | `(tactic| walk_at "st") => `(tactic| repeat (first
  | (with_reducible apply sv_seq)
  | ((with_reducible apply sv_set); (focus (walk_at "ev")); (focus (walk_at "at")))
  | ((with_reducible apply sv_drop); (focus (walk_at "ev")))
  | (with_reducible apply sv_next)))
local macro_rules | `(tactic| walk_at "eq") => `(tactic| (with_reducible apply ev_eq); (focus (walk_at "ev")); rfl)
theorem right_mk {sec st : Nat} {a b c e : Int} (ha : -1 ≤ a ∧ a ≤ 1) (hc : -1 ≤ c ∧ c ≤ 1) (hb : 0 ≤ b ∧ b < sec) (he : 0 ≤ e ∧ e < st) : rightO sec st (.tup [.int a, .int b, .int c, .int e]) = true := by
  have er : rightO sec st (.tup [.int a, .int b, .int c, .int e]) = (decide (-1 ≤ a) && decide (a ≤ 1) && (decide (-1 ≤ c) && decide (c ≤ 1)) && (decide (0 ≤ b) && decide (b < sec)) && (decide (0 ≤ e) && decide (e < st))) := rfl
  rw [er]
  simp only [Bool.and_eq_true, decide_eq_true_eq]
  omega
theorem mv1 {r : Int} (h : 0 ≤ r ∧ r < 8) : ∃ m : Int, atI [D.int 1, .int 1, .int 1, .int 1, .int 0, .int 0, .int (-1), .int (-1)] r = some (.int m) ∧ -1 ≤ m ∧ m ≤ 1 := by
  have : r = 0 ∨ r = 1 ∨ r = 2 ∨ r = 3 ∨ r = 4 ∨ r = 5 ∨ r = 6 ∨ r = 7 := by omega
  rcases this with rfl | rfl | rfl | rfl | rfl | rfl | rfl | rfl <;> exact ⟨_, rfl, by decide, by decide⟩
theorem mv2 {r : Int} (h : 0 ≤ r ∧ r < 8) : ∃ m : Int, atI [D.int 1, .int 1, .int 1, .int (-1), .int (-1), .int (-1), .int 0, .int 0] r = some (.int m) ∧ -1 ≤ m ∧ m ≤ 1 := by
  have : r = 0 ∨ r = 1 ∨ r = 2 ∨ r = 3 ∨ r = 4 ∨ r = 5 ∨ r = 6 ∨ r = 7 := by omega
  rcases this with rfl | rfl | rfl | rfl | rfl | rfl | rfl | rfl <;> exact ⟨_, rfl, by decide, by decide⟩
theorem pure__law_two_option {mg : Str → Option Value} {w : World} (B : Bx) (T : Tx w B.K mg) (W : WX) (ds : List D) (R : Sl → Prop) (X : Xc → Prop) (h : F__law_two_option B.K ds R X) : Sv B W (t__law_two_option w B.K W) (ini N__law_two_option ds) { nx := fun _ => R (.dat .non), rt := R, xc := fun x _ => X x } := by
  obtain ⟨r0, r1, r2, r3, r4, one, two, sec, st, rfl, h1, h2, h2b, h3, h4, hs, hs2, ht, ht2, hR⟩ := h
  show Sv B W (t__law_two_option w B.K W) [.dat (.lst [.int r0, .int r1, .int r2, .int r3, .int r4]), .dat (.int one), .dat (.int two), .dat (.int sec), .dat (.int st), .un] _
  unfold t__law_two_option
  refine sv_seq (sv_if (by walk_at "ev") (fun _ => ?_) fun _ => sv_next ?_)
  · exact sv_ret (by walk_at "ev") (hR _ rfl)
  · obtain ⟨m1, e1, b1⟩ := mv1 h1
    obtain ⟨m2, e2, b2⟩ := mv2 h3
    refine sv_seq (sv_set (by walk_at "ev") (by walk_at "at") ?_)
    refine sv_ret (by walk_at "ev") (hR _ ?_)
    have p1 := Int.emod_nonneg (r2 * 13 + two) (b := (sec : Int)) (by omega)
    have p2 := Int.emod_lt_of_pos (r2 * 13 + two) (b := (sec : Int)) (by omega)
    have p3 := Int.emod_nonneg r4 (b := (st : Int)) (by omega)
    have p4 := Int.emod_lt_of_pos r4 (b := (st : Int)) (by omega)
    exact right_mk b1 b2 ⟨p1, p2⟩ ⟨p3, p4⟩
def rwL (r : Rw) : List D := r.map fun it => .lst (it.map .lst)
theorem sizes_at : ∀ p : Fin 25, ∀ j : Fin 5, (rep2 25 ([12, 8, 8, 8, 8] : List Int))[5 * p.val + j.val]? = ([12, 8, 8, 8, 8] : List Int)[j.val]? := by decide
theorem pure__law_two_table {mg : Str → Option Value} {w : World} (B : Bx) (T : Tx w B.K mg) (W : WX) (ds : List D) (R : Sl → Prop) (X : Xc → Prop) (h : F__law_two_table B.K ds R X) : Sv B W (t__law_two_table w B.K W) (ini N__law_two_table ds) { nx := fun _ => R (.dat .non), rt := R, xc := fun x _ => X x } := by
  obtain ⟨ns, first, sec, st, rfl, hf, hs, hs2, ht, ht2, hR⟩ := h
  show Sv B W (t__law_two_table w B.K W) [.dat (.lst (ns.map .int)), .dat (.int 4), .dat (.int first), .dat (.int sec), .dat (.int st), .un, .un, .un, .un, .un, .un, .un, .un] _
  unfold t__law_two_table
  refine sv_seq (sv_setO (w := .lst []) (by walk_at "eo") (by walk_at "at") ?_)
  refine sv_seq (sv_forR (n := st) (evi_rngN (by walk_at "ev") (by omega)) (fun k Γ' => ∃ rs : Rw, rs.length = k ∧ (∀ it ∈ rs, it.length = first ∧ ∀ os ∈ it, os.length = sec ∧ ∀ d ∈ os, rightO sec st d = true) ∧ ∃ c6 c7 c8 c9 c10 c11 c12 : Sl, Γ' = [.dat (.lst (ns.map .int)), .dat (.int 4), .dat (.int first), .dat (.int sec), .dat (.int st), .own (.lst (rwL rs)), c6, c7, c8, c9, c10, c11, c12]) ⟨[], rfl, (fun _ h => nomatch h), _, _, _, _, _, _, _, rfl⟩ ?_ ?_)
  · rintro Γ' ⟨rs, hl, hg, c6, c7, c8, c9, c10, c11, c12, rfl⟩
    exact sv_freeze 5 rfl (by walk_at "at") (sv_ret (by walk_at "ev") (hR rs ⟨hl, hg⟩))
  · rintro k Γ' hk ⟨rs, hl, hg, c6, c7, c8, c9, c10, c11, c12, rfl⟩
    refine ⟨_, evg_name (by walk_at "at"), ?_⟩
    let z := cellZ ns (4 + (k : Nat))
    let dg := digits z (rep2 25 [12, 8, 8, 8, 8])
    have hsz : (rep2 25 ([12, 8, 8, 8, 8] : List Int)).length = 125 := by decide
    have hdl : dg.length = 125 := by rw [digits_len]; exact hsz
    refine sv_seq (sv_set (d := .lst (dg.map .int)) (ev_callS (eva_cons (ev_callS (eva_cons (by walk_at "ev") (eva_cons (by walk_at "ev") eva_nil)) ⟨ns, 4 + (k : Nat), rfl, by omega, by omega, rfl⟩) (eva_cons (ev_eq (ev_rep (evo_lstX (ds := [.int 12, .int 8, .int 8, .int 8, .int 8]) (by walk_at "ev") (Nat.le_of_ble_eq_true rfl)) ev_int (by omega) (by omega) (by decide)) (congrArg D.lst (rep2_map D.int 25 [12, 8, 8, 8, 8]))) eva_nil)) ⟨z, rep2 25 [12, 8, 8, 8, 8], rfl, by decide, by decide, rfl⟩) (by walk_at "at") ?_)
    have hdg : ∀ (p : Fin 25) (j : Fin 5) (s : Int), ([12, 8, 8, 8, 8] : List Int)[j.val]? = some s → 0 < s → 0 ≤ dg.getD (5 * p.val + j.val) 0 ∧ dg.getD (5 * p.val + j.val) 0 < s := fun p j s hj h0 => by
      obtain ⟨d, e, b⟩ := digits_lt z (rep2 25 [12, 8, 8, 8, 8]) (5 * p.val + j.val) s ((sizes_at p j).trans hj) h0
      rw [List.getD_eq_getElem?_getD, e]
      exact b
    refine sv_seq (sv_setO (w := .lst []) (by walk_at "eo") (by walk_at "at") ?_)
    refine sv_seq (sv_forR (n := first) (evi_rngN (by walk_at "ev") (by omega)) (fun j Γ' => ∃ it : List (List D), it.length = j ∧ (∀ os ∈ it, os.length = sec ∧ ∀ d ∈ os, rightO sec st d = true) ∧ ∃ c9 c10 c11 c12 : Sl, Γ' = [.dat (.lst (ns.map .int)), .dat (.int 4), .dat (.int first), .dat (.int sec), .dat (.int st), .own (.lst (rwL rs)), .dat (.int k), .dat (.lst (dg.map .int)), .own (.lst (it.map .lst)), c9, c10, c11, c12]) ⟨[], rfl, (fun _ h => nomatch h), _, _, _, _, rfl⟩ ?_ ?_)
    · rintro Γ' ⟨it, hj, hi, c9, c10, c11, c12, rfl⟩
      refine sv_freeze 8 rfl (by walk_at "at") (sv_app (d := .lst (it.map .lst)) rfl (by walk_at "ev") (by unfold rwL; rw [List.length_map]; omega) (by walk_at "at") ?_)
      refine ⟨rs ++ [it], by rw [List.length_append, hl]; rfl, fun it' h => ?_, _, _, _, _, _, _, _, by unfold rwL; rw [List.map_append]; rfl⟩
      rcases List.mem_append.mp h with h | h
      · exact hg it' h
      · rw [List.mem_singleton] at h; subst h; exact ⟨hj, hi⟩
    · rintro j Γ' hj ⟨it, hjl, hi, c9, c10, c11, c12, rfl⟩
      refine ⟨_, evg_name (by walk_at "at"), ?_⟩
      refine sv_seq (sv_setO (w := .lst []) (by walk_at "eo") (by walk_at "at") ?_)
      refine sv_seq (sv_forR (n := sec) (evi_rngN (by walk_at "ev") (by omega)) (fun i Γ' => ∃ os : List D, os.length = i ∧ (∀ d ∈ os, rightO sec st d = true) ∧ ∃ c11 c12 : Sl, Γ' = [.dat (.lst (ns.map .int)), .dat (.int 4), .dat (.int first), .dat (.int sec), .dat (.int st), .own (.lst (rwL rs)), .dat (.int k), .dat (.lst (dg.map .int)), .own (.lst (it.map .lst)), .dat (.int j), .own (.lst os), c11, c12]) ⟨[], rfl, (fun _ h => nomatch h), _, _, rfl⟩ ?_ ?_)
      · rintro Γ' ⟨os, ho, hd, c11, c12, rfl⟩
        refine sv_freeze 10 rfl (by walk_at "at") (sv_app (d := .lst os) rfl (by walk_at "ev") (by rw [List.length_map]; omega) (by walk_at "at") ?_)
        refine ⟨it ++ [os], by rw [List.length_append, hjl]; rfl, fun os' h => ?_, _, _, _, _, by rw [List.map_append]; rfl⟩
        rcases List.mem_append.mp h with h | h
        · exact hi os' h
        · rw [List.mem_singleton] at h; subst h; exact ⟨ho, hd⟩
      · rintro i Γ' hi2 ⟨os, ho, hd, c11, c12, rfl⟩
        refine ⟨_, evg_name (by walk_at "at"), ?_⟩
        have hpn : ∃ p : Fin 25, (((j : Nat) : Int) * (sec : Nat) + (i : Nat)) % 25 = (p.val : Int) := ⟨⟨((((j : Nat) : Int) * (sec : Nat) + (i : Nat)) % 25).toNat, by omega⟩, by simp only; omega⟩
        obtain ⟨p, hp⟩ := hpn
        refine sv_seq (sv_set (d := .int ((5 * p.val : Nat) : Int)) (ev_eq (by walk_at "ev") (congrArg D.int (by rw [hp]; omega))) (by walk_at "at") ?_)
        have hp5 : 5 * p.val + 5 ≤ dg.length := by have := p.isLt; omega
        have hcut : cut (dg.map D.int) (some ((5 * p.val : Nat) : Int)) (some (((5 * p.val : Nat) : Int) + 5)) = [.int dg[5 * p.val], .int dg[5 * p.val + 1], .int dg[5 * p.val + 2], .int dg[5 * p.val + 3], .int dg[5 * p.val + 4]] := by
          have := cut_sub (dg.map D.int) (5 * p.val) (5 * p.val + 5) (by rw [List.length_map]; omega) (by rw [List.length_map]; omega)
          rw [show (((5 * p.val : Nat) : Int) + 5) = ((5 * p.val + 5 : Nat) : Int) by omega, this, show 5 * p.val + 5 - 5 * p.val = 5 by omega, ← List.map_drop, ← List.map_take, take5 hp5]
          rfl
        have gd : ∀ (j : Nat) (hj : j < 5), dg.getD (5 * p.val + j) 0 = dg[5 * p.val + j] := fun j hj => by rw [List.getD_eq_getElem?_getD, List.getElem?_eq_getElem (by omega)]; rfl
        have b1 := hdg p 1 8 rfl (by decide)
        have b2 := hdg p 2 8 rfl (by decide)
        have b3 := hdg p 3 8 rfl (by decide)
        have b4 := hdg p 4 8 rfl (by decide)
        simp only [show ((1 : Fin 5) : Nat) = 1 from rfl, show ((2 : Fin 5) : Nat) = 2 from rfl, show ((3 : Fin 5) : Nat) = 3 from rfl, show ((4 : Fin 5) : Nat) = 4 from rfl] at b1 b2 b3 b4
        rw [gd 1 (by omega)] at b1
        rw [gd 2 (by omega)] at b2
        rw [gd 3 (by omega)] at b3
        rw [gd 4 (by omega)] at b4
        refine sv_appN rfl (evdn_callS (eva_cons (ev_eq (ev_sl (by walk_at "ev") (by walk_at "ev") (by walk_at "ev") rs_slL) (congrArg D.lst hcut)) (by walk_at "ev")) ⟨_, _, _, _, _, j, i, sec, st, rfl, b1, b2.1, by omega, b3, b4.1, hs, by omega, ht, by omega, fun d hd' => ⟨d, rfl, _, by walk_at "at", os ++ [d], by rw [List.length_append, ho]; rfl, fun d2 h => ?_, _, _, rfl⟩⟩) (by omega)
        rcases List.mem_append.mp h with h | h
        · exact hd d2 h
        · rw [List.mem_singleton] at h; subst h; exact hd'

end L

namespace L
open PySem PySem.Spec PyProof.Rows L2 Z
local macro_rules | `(tactic| walk_at "at") => `(tactic| first | with_reducible exact SetAt.zero | ((with_reducible apply SetAt.succ); walk_at "at"))
local macro_rules | `(tactic| walk_at "sd") => `(tactic| first | (with_reducible assumption) | omega | (simp only [rep_length, List.length_append, List.length_cons, List.length_nil, List.length_map, List.length_replicate, List.length_range, List.length_take, List.length_reverse] <;> omega) | decide | exact Nat.le_of_ble_eq_true rfl)
local macro_rules | `(tactic| walk_at "cm") => `(tactic| first | (with_reducible assumption) | (refine cmul_s ?_ ?_ ?_ ?_ <;> first | omega | decide))
local macro_rules | `(tactic| walk_at "rv") => `(tactic| first
  | with_reducible exact rv_add | ((with_reducible apply rv_addT); walk_at "sd") | ((with_reducible apply rv_addL); walk_at "sd") | ((with_reducible apply rv_addU); walk_at "sd")
  | with_reducible exact rv_sub | ((with_reducible apply rv_mul); walk_at "cm") | ((with_reducible apply rv_mulT) <;> walk_at "sd")
  | ((with_reducible apply rv_div); first | assumption | exact cdiv_s (by walk_at "sd") (by walk_at "sd")) | ((with_reducible apply rv_mod); walk_at "sd") | ((with_reducible apply rv_pow); exact ⟨by decide, by decide, by decide⟩)
  | with_reducible exact rv_lt | with_reducible exact rv_le | with_reducible exact rv_gt | with_reducible exact rv_ge
  | with_reducible exact rv_eqI | with_reducible exact rv_eqT | with_reducible exact rv_eqB | with_reducible exact rv_neI | with_reducible exact rv_neT | with_reducible exact rv_neB
  | ((with_reducible apply rv_ixL); first | with_reducible assumption | exact rfl) | ((with_reducible apply rv_ixU); first | with_reducible assumption | exact rfl) | ((with_reducible apply rv_ixT); (focus (first | with_reducible assumption | exact rfl)); walk_at "sd")
  | with_reducible exact rv_isN | with_reducible exact rv_isN' | with_reducible exact rv_notN'
  | with_reducible exact rv_inT | with_reducible exact rv_ninT | with_reducible exact rv_inTs | with_reducible exact rv_ninTs | with_reducible assumption)
local macro_rules | `(tactic| walk_at "rc") => `(tactic| first | with_reducible exact rc_int | with_reducible exact rc_intB | with_reducible exact rc_lenL | with_reducible exact rc_lenU | ((with_reducible apply rc_lenT); walk_at "sd") | with_reducible exact rc_min | with_reducible exact rc_tupleL | with_reducible exact rc_tupleU | with_reducible exact rc_listL | with_reducible exact rc_listU | with_reducible exact rc_max | ((with_reducible apply rc_isi); (focus (exact rfl)); first | with_reducible exact kitT | with_reducible exact kit_NoneType_int | with_reducible exact kit_NoneType_bool | with_reducible exact kit_NoneType_str | with_reducible exact kit_NoneType_list | with_reducible exact kit_NoneType_tuple | with_reducible exact kit_bool_int | with_reducible exact kit_bool_bool | with_reducible exact kit_bool_str | with_reducible exact kit_bool_list | with_reducible exact kit_bool_tuple | with_reducible exact kit_int_int | with_reducible exact kit_int_bool | with_reducible exact kit_int_str | with_reducible exact kit_int_list | with_reducible exact kit_int_tuple | with_reducible exact kit_str_int | with_reducible exact kit_str_bool | with_reducible exact kit_str_str | with_reducible exact kit_str_list | with_reducible exact kit_str_tuple | with_reducible exact kit_list_int | with_reducible exact kit_list_bool | with_reducible exact kit_list_str | with_reducible exact kit_list_list | with_reducible exact kit_list_tuple | with_reducible exact kit_tuple_int | with_reducible exact kit_tuple_bool | with_reducible exact kit_tuple_str | with_reducible exact kit_tuple_list | with_reducible exact kit_tuple_tuple | assumption | rfl) | with_reducible assumption)
local macro_rules | `(tactic| walk_at "rs") => `(tactic| first | with_reducible exact rs_slL | with_reducible exact rs_slU | ((with_reducible apply rs_slT); walk_at "sd"))
local macro_rules | `(tactic| walk_at "ru") => `(tactic| first | ((with_reducible apply ru_rev); walk_at "sd") | with_reducible exact ru_neg)
local macro_rules | `(tactic| walk_at "rm") => `(tactic| first | with_reducible exact rm_count | with_reducible assumption)
local macro_rules | `(tactic| walk_at "eo") => `(tactic| first
  | ((with_reducible apply evo_lstX); (focus (walk_at "ev")); exact Nat.le_of_ble_eq_true rfl)
  | ((with_reducible apply evo_callS); (focus (walk_at "ev")); (focus (walk_at "fn")))
  | ((with_reducible apply evo_addL rfl); (focus (walk_at "ev")); (focus (walk_at "ev")); walk_at "sd")
  | ((with_reducible apply evo_listL rfl); walk_at "ev") | ((with_reducible apply evo_listU rfl); walk_at "ev")
  | with_reducible assumption)
local macro_rules | `(tactic| walk_at "ev") => `(tactic| first
  | (with_reducible assumption)
  | ((with_reducible apply ev_var); exact rfl)
  | with_reducible exact ev_int | with_reducible exact ev_str | with_reducible exact ev_bl | with_reducible exact ev_non | with_reducible exact ev_ty | with_reducible exact ev_ref
  | with_reducible exact eva_nil
  | ((with_reducible apply eva_cons); (focus (walk_at "ev")); (focus (walk_at "ev")))
  | ((with_reducible apply ev_op); (focus (walk_at "ev")); (focus (walk_at "ev")); (focus (walk_at "rv")))
  | ((with_reducible apply ev_cb); (focus (walk_at "ev")); (focus (walk_at "rc")))
  | ((with_reducible apply evt_test); (focus (walk_at "ev")))
  | ((with_reducible apply evt_b); (focus (walk_at "ev")))
  | ((with_reducible apply evt_not); (focus (walk_at "ev")))
  | ((with_reducible apply evt_and); (focus (walk_at "ev")); (focus (intro _; walk_at "ev")))
  | ((with_reducible apply evt_or); (focus (walk_at "ev")); (focus (intro _; walk_at "ev")))
  | with_reducible exact evt_yes
  | ((with_reducible apply ev_and); (focus (walk_at "ev")); (focus (intro _; walk_at "ev")))
  | ((with_reducible apply ev_or); (focus (walk_at "ev")); (focus (intro _; walk_at "ev")))
  | ((with_reducible apply ev_not); (focus (walk_at "ev")))
  | ((with_reducible apply ev_callS); (focus (walk_at "ev")); (focus (walk_at "fn")))
  | ((with_reducible apply ev_call); (focus (walk_at "ev")); (focus (walk_at "fn")))
  | ((with_reducible apply ev_tupX); (focus (walk_at "ev")); exact Nat.le_of_ble_eq_true rfl)
  | with_reducible exact evp_none
  | ((with_reducible apply evp_some); (focus (walk_at "ev")))
  | ((with_reducible apply ev_sl); (focus (walk_at "ev")); (focus (walk_at "ev")); (focus (walk_at "ev")); (focus (walk_at "rs")))
  | ((with_reducible apply ev_un); (focus (walk_at "ev")); (focus (walk_at "ru")))
  | ((with_reducible apply ev_bmT); (focus (walk_at "ev")); (focus (walk_at "ev")); (focus (walk_at "rm")))
  | ((with_reducible apply ev_bmT0); (focus (walk_at "ev")); (focus (walk_at "rm")))
  | ((with_reducible apply evi_list); (focus (walk_at "ev")))
  | ((with_reducible apply evi_tup); (focus (walk_at "ev")))
  | ((with_reducible apply evi_str); (focus (walk_at "ev")))
  | ((with_reducible apply evi_rng1); (focus (walk_at "ev")); (focus (constructor <;> walk_at "sd")))
  | ((with_reducible apply evi_rng2); (focus (walk_at "ev")); (focus (constructor <;> walk_at "sd")); (focus (constructor <;> walk_at "sd")))
  | ((with_reducible apply Ev.of_own); walk_at "eo")
  | with_reducible assumption)
local macro_rules | `(tactic| walk_at "st") => `(tactic| repeat (first
  | (with_reducible apply sv_seq)
  | ((with_reducible apply sv_set); (focus (walk_at "ev")); (focus (walk_at "at")))
  | ((with_reducible apply sv_drop); (focus (walk_at "ev")))
  | (with_reducible apply sv_next)))
local macro_rules | `(tactic| walk_at "eq") => `(tactic| (with_reducible apply ev_eq); (focus (walk_at "ev")); rfl)
theorem ev_lenR {B : Bx} {Γ : List Sl} {te : TE} {l : List D} {n : Nat} (h : Ev B te Γ (.lst l)) (e : l.length = n) : EvA B (tCons (tCB (zLen B.K) (tCons te tNil)) tNil) Γ [.int (n : Nat)] := by
  subst e
  exact eva_cons (ev_cb (eva_cons h eva_nil) rc_lenL) eva_nil
theorem pure__law_right_option {mg : Str → Option Value} {w : World} (B : Bx) (T : Tx w B.K mg) (W : WX) (ds : List D) (R : Sl → Prop) (X : Xc → Prop) (h : F__law_right_option B.K ds R X) : Sv B W (t__law_right_option w B.K W) (ini N__law_right_option ds) { nx := fun _ => R (.dat .non), rt := R, xc := fun x _ => X x } := by
  obtain ⟨d, sec, st, rfl, hd, hR⟩ := h
  show Sv B W (t__law_right_option w B.K W) [.dat d, .dat (.int sec), .dat (.int st), .un, .un] _
  unfold t__law_right_option
  rcases hd with hd | ⟨l, rfl, hl, hf⟩
  · cases d with
    | bl b =>
      cases b with
      | true => exact sv_seq (sv_if (p := true) (evt_or (p := true) (q := true) (evt_test (ev_op (b := .bl true) (by walk_at "ev") (by walk_at "ev") rv_isB)) fun h => nomatch h) (fun _ => sv_retD (by walk_at "ev") hR) fun h => nomatch h)
      | false => exact sv_seq (sv_if (p := true) (evt_or (p := false) (q := true) (evt_test (ev_op (b := .bl true) (by walk_at "ev") (by walk_at "ev") rv_isB)) fun _ => evt_test (ev_op (b := .bl false) (by walk_at "ev") (by walk_at "ev") rv_isB)) (fun _ => sv_retD (by walk_at "ev") hR) fun h => nomatch h)
    | int i =>
      refine sv_seq (sv_if (p := false) (evt_or (p := false) (q := false) (evt_test (ev_op (b := .bl true) (by walk_at "ev") (by walk_at "ev") rv_isB)) fun _ => evt_test (ev_op (b := .bl false) (by walk_at "ev") (by walk_at "ev") rv_isB)) (fun h => nomatch h) fun _ => sv_next ?_)
      exact sv_seq (sv_if (p := true) (evt_or (p := true) (q := true) (evt_eq (evt_not (p := false) (evt_b (by walk_at "ev"))) rfl) fun h => nomatch h) (fun _ => sv_retD (by walk_at "ev") hR) fun h => nomatch h)
    | str x =>
      refine sv_seq (sv_if (p := false) (evt_or (p := false) (q := false) (evt_test (ev_op (b := .bl true) (by walk_at "ev") (by walk_at "ev") rv_isB)) fun _ => evt_test (ev_op (b := .bl false) (by walk_at "ev") (by walk_at "ev") rv_isB)) (fun h => nomatch h) fun _ => sv_next ?_)
      exact sv_seq (sv_if (p := true) (evt_or (p := true) (q := true) (evt_eq (evt_not (p := false) (evt_b (by walk_at "ev"))) rfl) fun h => nomatch h) (fun _ => sv_retD (by walk_at "ev") hR) fun h => nomatch h)
    | non =>
      refine sv_seq (sv_if (p := false) (evt_or (p := false) (q := false) (evt_test (ev_op (b := .bl true) (by walk_at "ev") (by walk_at "ev") rv_isB)) fun _ => evt_test (ev_op (b := .bl false) (by walk_at "ev") (by walk_at "ev") rv_isB)) (fun h => nomatch h) fun _ => sv_next ?_)
      exact sv_seq (sv_if (p := true) (evt_or (p := true) (q := true) (evt_eq (evt_not (p := false) (evt_b (by walk_at "ev"))) rfl) fun h => nomatch h) (fun _ => sv_retD (by walk_at "ev") hR) fun h => nomatch h)
    | _ => cases hd
  · refine sv_seq (sv_if (p := false) (evt_or (p := false) (q := false) (evt_test (ev_op (b := .bl true) (by walk_at "ev") (by walk_at "ev") rv_isB)) fun _ => evt_test (ev_op (b := .bl false) (by walk_at "ev") (by walk_at "ev") rv_isB)) (fun h => nomatch h) fun _ => sv_next ?_)
    by_cases h4 : l.length = 4
    · refine sv_seq (sv_if (p := false) (evt_eq (evt_or (p := false) (evt_eq (evt_not (p := true) (evt_b (by walk_at "ev"))) rfl) fun _ => by walk_at "ev") (by rw [decide_eq_true (by omega)]; rfl)) (fun h => nomatch h) fun _ => sv_next ?_)
      refine sv_seq (sv_forI (fun x : D => x) l (by rw [List.map_id']; exact evi_tup (by walk_at "ev")) (fun i Γ' => (∀ (j : Nat) (x : D), j < i → l[j]? = some x → isI x = true) ∧ ∃ c3 : Sl, Γ' = [.dat (.tup l), .dat (.int sec), .dat (.int st), c3, .un]) ⟨fun j x h => by omega, _, rfl⟩ ?_ ?_)
      · rintro Γ' ⟨hp, c3, rfl⟩
        obtain ⟨x, y, z, u, rfl⟩ := list4 h4
        obtain ⟨a, rfl⟩ := isI_int (hp 0 x (by simp) rfl)
        obtain ⟨b, rfl⟩ := isI_int (hp 1 y (by simp) rfl)
        obtain ⟨c, rfl⟩ := isI_int (hp 2 z (by simp) rfl)
        obtain ⟨e, rfl⟩ := isI_int (hp 3 u (by simp) rfl)
        refine sv_seq (sv_set (ev_and (by walk_at "ev") fun _ => ev_and (by walk_at "ev") fun _ => ev_and (by walk_at "ev") fun _ => by walk_at "ev") (by walk_at "at") ?_)
        refine sv_retD (ev_and (by walk_at "ev") fun _ => ev_and (by walk_at "ev") fun _ => ev_and (by walk_at "ev") fun _ => ev_and (by walk_at "ev") fun _ => by walk_at "ev") hR (congrArg D.bl ?_)
        have er : rightO sec st (.tup [.int a, .int b, .int c, .int e]) = (decide (-1 ≤ a) && decide (a ≤ 1) && (decide (-1 ≤ c) && decide (c ≤ 1)) && (decide (0 ≤ b) && decide (b < sec)) && (decide (0 ≤ e) && decide (e < st))) := rfl
        rw [er]
        simp only [Bool.and_assoc]
      · rintro i x Γ' hi ⟨hp, c3, rfl⟩
        refine ⟨_, evg_name (by walk_at "at"), ?_⟩
        refine sv_if (evt_not (evt_b (p := isI x) (ev_callS (by walk_at "ev") ⟨x, rfl, List.all_eq_true.mp hf x (List.mem_of_getElem? hi), rfl⟩))) (fun h => ?_) fun h => sv_next ⟨fun j y hj hy => ?_, _, rfl⟩
        · have er : rightO sec st (.tup l) = false := by
            cases q : rightO sec st (.tup l) with
            | false => rfl
            | true =>
              rcases right_cases q with ⟨b, e⟩ | ⟨a, b, c, e, e1, _⟩
              · cases e
              · cases e1
                have hm := List.mem_of_getElem? hi
                simp only [List.mem_cons, List.not_mem_nil, or_false] at hm
                rcases hm with rfl | rfl | rfl | rfl <;> cases h
          rw [er] at hR
          exact sv_retD (by walk_at "ev") hR
        · by_cases hji : j = i
          · subst hji; rw [hi] at hy; cases hy; simpa using h
          · exact hp j y (by omega) hy
    · have er : rightO sec st (.tup l) = false := by
        cases q : rightO sec st (.tup l) with
        | false => rfl
        | true =>
          rcases right_cases q with ⟨b, e⟩ | ⟨a, b, c, e, e1, _⟩
          · cases e
          · cases e1; exact absurd rfl h4
      rw [er] at hR
      exact sv_seq (sv_if (p := true) (evt_eq (evt_or (p := false) (evt_eq (evt_not (p := true) (evt_b (by walk_at "ev"))) rfl) fun _ => by walk_at "ev") (by rw [decide_eq_false (by omega)]; rfl)) (fun _ => sv_retD (by walk_at "ev") hR) fun h => nomatch h)
theorem pure__law_first_wrong {mg : Str → Option Value} {w : World} (B : Bx) (T : Tx w B.K mg) (W : WX) (ds : List D) (R : Sl → Prop) (X : Xc → Prop) (h : F__law_first_wrong B.K ds R X) : Sv B W (t__law_first_wrong w B.K W) (ini N__law_first_wrong ds) { nx := fun _ => R (.dat .non), rt := R, xc := fun x _ => X x } := by
  obtain ⟨r, first, sec, rfl, hr, hR⟩ := h
  show Sv B W (t__law_first_wrong w B.K W) [.dat (.lst (rwL r)), .dat (.int first), .dat (.int sec), .un, .un, .un] _
  unfold t__law_first_wrong
  have hrl : (rwL r).length = r.length := by unfold rwL; rw [List.length_map]
  by_cases h0 : r.length = 0
  · have : wrongAt first sec r = some 0 := by unfold wrongAt; rw [if_pos h0]
    rw [this] at hR
    exact sv_seq (sv_if (p := true) (evt_eq (by walk_at "ev") (decide_eq_true (by omega))) (fun _ => sv_retD (by walk_at "ev") hR) fun h => nomatch h)
  refine sv_seq (sv_if (p := false) (evt_eq (by walk_at "ev") (decide_eq_false (by omega))) (fun h => nomatch h) fun _ => sv_next ?_)
  refine sv_seq (sv_forR (n := r.length) (evi_rngN (ev_lenR (by walk_at "ev") hrl) (by have := hr.1; omega)) (fun k Γ' => (∀ j, j < k → ∀ it : List (List D), r[j]? = some it → rightRow first sec r.length it = true) ∧ ∃ c3 c4 c5 : Sl, Γ' = [.dat (.lst (rwL r)), .dat (.int first), .dat (.int sec), c3, c4, c5]) ⟨fun j h => by omega, _, _, _, rfl⟩ ?_ ?_)
  · rintro Γ' ⟨hp, c3, c4, c5, rfl⟩
    rw [wrong_none h0 hp] at hR
    exact sv_retD (by walk_at "ev") hR
  · rintro k Γ' hk ⟨hp, c3, c4, c5, rfl⟩
    refine ⟨_, evg_name (by walk_at "at"), ?_⟩
    have hit : r[k]? = some r[k] := List.getElem?_eq_getElem hk
    generalize r[k] = it at hit
    obtain ⟨hm1, hm2⟩ := hr.2 it (List.mem_of_getElem? hit)
    have hat : atI (rwL r) ((k : Nat) : Int) = some (.lst (it.map .lst)) := atI_ofNat (by unfold rwL; rw [List.getElem?_map, hit]; rfl)
    have bad : rightRow first sec r.length it = false → R (.dat (.int k)) := fun h => by
      rw [wrong_some hit h hp] at hR
      exact hR
    by_cases h1 : it.length = first
    · refine sv_seq (sv_if (p := false) (evt_eq (by walk_at "ev") (by rw [List.length_map, decide_eq_true (by omega)]; rfl)) (fun h => nomatch h) fun _ => sv_next ?_)
      refine sv_forI (fun os : List D => .lst os) it (evi_list (by walk_at "ev")) (fun i Γ' => (∀ j, j < i → ∀ os : List D, it[j]? = some os → os.length = sec ∧ ∀ d ∈ os, rightO sec r.length d = true) ∧ ∃ c4 c5 : Sl, Γ' = [.dat (.lst (rwL r)), .dat (.int first), .dat (.int sec), .dat (.int k), c4, c5]) ⟨fun j h => by omega, _, _, rfl⟩ ?_ ?_
      · rintro Γ' ⟨hq, c4, c5, rfl⟩
        refine ⟨fun j hj it' hj' => ?_, _, _, _, rfl⟩
        by_cases hjk : j = k
        · subst hjk; rw [hit] at hj'; cases hj'
          exact row_true h1 fun i os h => hq i (List.getElem?_eq_some_iff.mp h).1 os h
        · exact hp j (by omega) it' hj'
      · rintro i os Γ' hi ⟨hq, c4, c5, rfl⟩
        refine ⟨_, evg_name (by walk_at "at"), ?_⟩
        obtain ⟨l1, o1⟩ := hm2 os (List.mem_of_getElem? hi)
        by_cases h2 : os.length = sec
        · refine sv_seq (sv_if (p := false) (evt_eq (by walk_at "ev") (by rw [decide_eq_true (by omega)]; rfl)) (fun h => nomatch h) fun _ => sv_next ?_)
          refine sv_forI (fun d : D => d) os (by rw [List.map_id']; exact evi_list (by walk_at "ev")) (fun n Γ' => (∀ (j : Nat) (d : D), j < n → os[j]? = some d → rightO sec r.length d = true) ∧ ∃ c5 : Sl, Γ' = [.dat (.lst (rwL r)), .dat (.int first), .dat (.int sec), .dat (.int k), .dat (.lst os), c5]) ⟨fun j d h => by omega, _, rfl⟩ ?_ ?_
          · rintro Γ' ⟨hs, c5, rfl⟩
            refine ⟨fun j hj os' hj' => ?_, _, _, rfl⟩
            by_cases hjk : j = i
            · subst hjk; rw [hi] at hj'; cases hj'
              refine ⟨h2, fun d hd => ?_⟩
              obtain ⟨n, hn⟩ := List.mem_iff_getElem?.mp hd
              exact hs n d (List.getElem?_eq_some_iff.mp hn).1 hn
            · exact hq j (by omega) os' hj'
          · rintro n d Γ' hn ⟨hs, c5, rfl⟩
            refine ⟨_, evg_name (by walk_at "at"), ?_⟩
            have hdm := List.mem_of_getElem? hn
            refine sv_if (evt_not (evt_b (p := rightO sec r.length d) (ev_callS (eva_cons (by walk_at "ev") (eva_cons (by walk_at "ev") (ev_lenR (by walk_at "ev") hrl))) ⟨d, sec, r.length, rfl, o1 d hdm, rfl⟩))) (fun h => ?_) fun h => sv_next ⟨fun j y hj hy => ?_, _, rfl⟩
            · exact sv_retD (by walk_at "ev") (bad (row_false (List.mem_of_getElem? hi) (.inr ⟨d, hdm, by simpa using h⟩)))
            · by_cases hji : j = n
              · subst hji; rw [hn] at hy; cases hy; simpa using h
              · exact hs j y (by omega) hy
        · exact sv_seq (sv_if (p := true) (evt_eq (by walk_at "ev") (by rw [decide_eq_false (by omega)]; rfl)) (fun _ => sv_retD (by walk_at "ev") (bad (row_false (List.mem_of_getElem? hi) (.inl h2)))) fun h => nomatch h)
    · have : rightRow first sec r.length it = false := by unfold rightRow; rw [decide_eq_false h1]; rfl
      exact sv_seq (sv_if (p := true) (evt_eq (by walk_at "ev") (by rw [List.length_map, decide_eq_false (by omega)]; rfl)) (fun _ => sv_retD (by walk_at "ev") (bad this)) fun h => nomatch h)
def optB (d : D) : Bool := flD d || match d with
  | .tup l => decide (l.length ≤ 5) && l.all flD
  | _ => false
theorem optB_ok {d : D} (h : optB d = true) : OptOk d := by
  unfold optB at h
  rw [Bool.or_eq_true] at h
  rcases h with h | h
  · exact .inl h
  · cases d with
    | tup l => simp only [Bool.and_eq_true, decide_eq_true_eq] at h; exact .inr ⟨l, rfl, h.1, h.2⟩
    | _ => cases h
theorem pure__law_other_option {mg : Str → Option Value} {w : World} (B : Bx) (T : Tx w B.K mg) (W : WX) (ds : List D) (R : Sl → Prop) (X : Xc → Prop) (h : F__law_other_option B.K ds R X) : Sv B W (t__law_other_option w B.K W) (ini N__law_other_option ds) { nx := fun _ => R (.dat .non), rt := R, xc := fun x _ => X x } := by
  obtain ⟨kind, a, b, c, e, far, sec, st, rfl, hk, ha, hb, hc, he, hR⟩ := h
  show Sv B W (t__law_other_option w B.K W) [.dat (.int kind), .dat (.tup [a, b, c, e]), .dat (.int far), .dat (.int sec), .dat (.int st), .un] _
  unfold t__law_other_option
  have fin : ∀ as : List D, as.length = 28 → as.all optB = true → Sv B W (tRet (tOp (zIx B.K) (tVar 5) (tVar 0))) [.dat (.int kind), .dat (.tup [a, b, c, e]), .dat (.int far), .dat (.int sec), .dat (.int st), .dat (.lst as)] { nx := fun _ => R (.dat .non), rt := R, xc := fun x _ => X x } := fun as hl ho =>
    sv_ret (ev_op (ev_var rfl) (ev_var rfl) (rv_ixL (atI_ofNat (List.getElem?_eq_getElem (show kind < as.length by omega))))) (hR _ (optB_ok (List.all_eq_true.mp ho _ (List.getElem_mem _))))
  refine sv_seq (sv_set (Ev.of_own (evo_lstX (by walk_at "ev") (Nat.le_of_ble_eq_true rfl))) (by walk_at "at") ?_)
  refine fin _ rfl ?_
  have f1 : ∀ i, flD (.int i) = true := fun _ => rfl
  have f2 : ∀ i, flD (.bl i) = true := fun _ => rfl
  have f3 : ∀ i, flD (.str i) = true := fun _ => rfl
  have f4 : flD .non = true := rfl
  simp [optB, f1, f2, f3, f4, ha, hb, hc, he]
theorem kinds_eq {B : Bx} {a b c d : Bool} {p q r s : Bool} : RV B (zEq B.K) (.lst [.bl a, .bl b, .bl c, .bl d]) (.lst [.bl p, .bl q, .bl r, .bl s]) (.bl (decide ([a, b, c, d] = [p, q, r, s]))) := by
  have h := rv_eqD (B := B) (d := .lst [.bl a, .bl b, .bl c, .bl d]) (e := .lst [.bl p, .bl q, .bl r, .bl s]) (u := .list [.bool a, .bool b, .bool c, .bool d]) (v := .list [.bool p, .bool q, .bool r, .bool s]) rfl rfl rfl rfl
  have e : PyData.eqv (.list [.bool a, .bool b, .bool c, .bool d]) (.list [.bool p, .bool q, .bool r, .bool s]) = decide ([a, b, c, d] = [p, q, r, s]) := by
    cases a <;> cases b <;> cases c <;> cases d <;> cases p <;> cases q <;> cases r <;> cases s <;> rfl
  rwa [e] at h
theorem pure__law_told {mg : Str → Option Value} {w : World} (B : Bx) (T : Tx w B.K mg) (W : WX) (ds : List D) (R : Sl → Prop) (X : Xc → Prop) (h : F__law_told B.K ds R X) : Sv B W (t__law_told w B.K W) (ini N__law_told ds) { nx := fun _ => R (.dat .non), rt := R, xc := fun x _ => X x } := by
  obtain ⟨lt, sec, d, rfl, hl, hN, hY⟩ := h
  show Sv B W (t__law_told w B.K W) [.dat (.str (tx lt)), .dat (.int sec), .dat d, .un, .un] _
  unfold t__law_told
  refine sv_seq (svt_as (i := 3) (Nat.le_of_ble_eq_true rfl) fun W' => ?_)
  by_cases hr : Right lt
  · obtain ⟨r, hok, hfz, hrw, hR⟩ := hY hr
    cases hw : wrongAt (1 + lt.length) sec r with
    | none =>
      rw [hw] at hR
      refine sv_drop (Ev.of_ownI (evo_mk (by walk_at "ev") ⟨lt, sec, d, rfl, hl, fun h => absurd hr h, fun _ => ⟨r, hok, hfz, hrw, fun _ => rfl, fun s h => by rw [hw] at h; cases h⟩⟩)) ?_
      exact sv_retO (evo_lstX (by walk_at "ev") (Nat.le_of_ble_eq_true rfl)) hR
    | some s =>
      rw [hw] at hR
      refine svx_drop (evx_mk (x := xBTab B.K s) (by walk_at "ev") ⟨lt, sec, d, rfl, hl, fun h => absurd hr h, fun _ => ⟨r, hok, hfz, hrw, (fun h => by rw [hw] at h; cases h), fun s' h => by rw [hw] at h; cases h; rfl⟩⟩) ?_
      refine .inl ⟨T.m_BadTable_ClockError, rfl, fun a d' => ?_, fun q => nomatch q⟩
      show Sv B _ _ [.dat (.str (tx lt)), .dat (.int sec), .dat d, .dat (.xc a d' [("state", .int s)]), .un] _
      refine sv_seq (sv_set (d := .lst [.bl false, .bl true, .bl false, .bl false]) (Ev.of_own (evo_lstX (eva_cons (ev_isG (by walk_at "ev") T.c_BadTable T.k_BadTable_BadLetters) (eva_cons (ev_isG (by walk_at "ev") T.c_BadTable T.k_BadTable_BadTable) (eva_cons (ev_isG (by walk_at "ev") T.c_BadTable T.k_BadTable_BadText) (eva_cons (ev_isG (by walk_at "ev") T.c_BadTable T.k_BadTable_Guesses) eva_nil)))) (Nat.le_of_ble_eq_true rfl))) (by walk_at "at") ?_)
      refine sv_seq (sv_if (p := false) (evt_and (p := false) (q := false) (evt_eq (evt_test (ev_op (by walk_at "ev") (by walk_at "ev") kinds_eq)) (by rfl)) fun h => nomatch h) (fun h => nomatch h) fun _ => sv_next ?_)
      refine sv_seq (sv_if (p := true) (evt_eq (evt_and (q := true) (evt_test (ev_op (by walk_at "ev") (by walk_at "ev") kinds_eq)) fun _ => evt_b (ev_isGT (by walk_at "ev") T.c_BadTable T.k_BadTable_ValueError)) (by rfl)) (fun _ => ?_) fun h => nomatch h)
      exact sv_retO (evo_lstX (eva_cons (by walk_at "ev") (eva_cons (ev_xg (by walk_at "ev") T.y_BadTable T.n_BadTable_state rfl) eva_nil)) (Nat.le_of_ble_eq_true rfl)) hR
  · refine svx_drop (evx_mk (x := xBLet B.K lt) (by walk_at "ev") ⟨lt, sec, d, rfl, hl, fun _ => rfl, fun h => absurd h hr⟩) ?_
    refine .inl ⟨T.m_BadLetters_ClockError, rfl, fun a d' => ?_, fun q => nomatch q⟩
    show Sv B _ _ [.dat (.str (tx lt)), .dat (.int sec), .dat d, .dat (.xc a d' [("letters", .str (tx lt))]), .un] _
    refine sv_seq (sv_set (d := .lst [.bl true, .bl false, .bl false, .bl false]) (Ev.of_own (evo_lstX (eva_cons (ev_isG (by walk_at "ev") T.c_BadLetters T.k_BadLetters_BadLetters) (eva_cons (ev_isG (by walk_at "ev") T.c_BadLetters T.k_BadLetters_BadTable) (eva_cons (ev_isG (by walk_at "ev") T.c_BadLetters T.k_BadLetters_BadText) (eva_cons (ev_isG (by walk_at "ev") T.c_BadLetters T.k_BadLetters_Guesses) eva_nil)))) (Nat.le_of_ble_eq_true rfl))) (by walk_at "at") ?_)
    refine sv_seq (sv_if (p := true) (evt_eq (evt_and (q := true) (evt_test (ev_op (by walk_at "ev") (by walk_at "ev") kinds_eq)) fun _ => evt_b (ev_isGT (by walk_at "ev") T.c_BadLetters T.k_BadLetters_ValueError)) (by rfl)) (fun _ => ?_) fun h => nomatch h)
    exact sv_retO (evo_lstX (eva_cons (by walk_at "ev") (eva_cons (ev_xg (by walk_at "ev") T.y_BadLetters T.n_BadLetters_letters rfl) eva_nil)) (Nat.le_of_ble_eq_true rfl)) (hN hr)

end L

namespace L
open PySem PySem.Spec PyProof.Rows L2 Z
local macro_rules | `(tactic| walk_at "at") => `(tactic| first | with_reducible exact SetAt.zero | ((with_reducible apply SetAt.succ); walk_at "at"))
local macro_rules | `(tactic| walk_at "sd") => `(tactic| first | (with_reducible assumption) | omega | (simp only [rep_length, List.length_append, List.length_cons, List.length_nil, List.length_map, List.length_replicate, List.length_range, List.length_take, List.length_reverse] <;> omega) | decide | exact Nat.le_of_ble_eq_true rfl)
local macro_rules | `(tactic| walk_at "cm") => `(tactic| first | (with_reducible assumption) | (refine cmul_s ?_ ?_ ?_ ?_ <;> first | omega | decide))
local macro_rules | `(tactic| walk_at "rv") => `(tactic| first
  | with_reducible exact rv_add | ((with_reducible apply rv_addT); walk_at "sd") | ((with_reducible apply rv_addL); walk_at "sd") | ((with_reducible apply rv_addU); walk_at "sd")
  | with_reducible exact rv_sub | ((with_reducible apply rv_mul); walk_at "cm") | ((with_reducible apply rv_mulT) <;> walk_at "sd")
  | ((with_reducible apply rv_div); first | assumption | exact cdiv_s (by walk_at "sd") (by walk_at "sd")) | ((with_reducible apply rv_mod); walk_at "sd") | ((with_reducible apply rv_pow); exact ⟨by decide, by decide, by decide⟩)
  | with_reducible exact rv_lt | with_reducible exact rv_le | with_reducible exact rv_gt | with_reducible exact rv_ge
  | with_reducible exact rv_eqI | with_reducible exact rv_eqT | with_reducible exact rv_eqB | with_reducible exact rv_neI | with_reducible exact rv_neT | with_reducible exact rv_neB
  | ((with_reducible apply rv_ixL); first | with_reducible assumption | exact rfl) | ((with_reducible apply rv_ixU); first | with_reducible assumption | exact rfl) | ((with_reducible apply rv_ixT); (focus (first | with_reducible assumption | exact rfl)); walk_at "sd")
  | with_reducible exact rv_isN | with_reducible exact rv_isN' | with_reducible exact rv_notN'
  | with_reducible exact rv_inT | with_reducible exact rv_ninT | with_reducible exact rv_inTs | with_reducible exact rv_ninTs | with_reducible assumption)
local macro_rules | `(tactic| walk_at "rc") => `(tactic| first | with_reducible exact rc_int | with_reducible exact rc_intB | with_reducible exact rc_lenL | with_reducible exact rc_lenU | ((with_reducible apply rc_lenT); walk_at "sd") | with_reducible exact rc_min | with_reducible exact rc_tupleL | with_reducible exact rc_tupleU | with_reducible exact rc_listL | with_reducible exact rc_listU | with_reducible exact rc_max | ((with_reducible apply rc_isi); (focus (exact rfl)); first | with_reducible exact kitT | with_reducible exact kit_NoneType_int | with_reducible exact kit_NoneType_bool | with_reducible exact kit_NoneType_str | with_reducible exact kit_NoneType_list | with_reducible exact kit_NoneType_tuple | with_reducible exact kit_bool_int | with_reducible exact kit_bool_bool | with_reducible exact kit_bool_str | with_reducible exact kit_bool_list | with_reducible exact kit_bool_tuple | with_reducible exact kit_int_int | with_reducible exact kit_int_bool | with_reducible exact kit_int_str | with_reducible exact kit_int_list | with_reducible exact kit_int_tuple | with_reducible exact kit_str_int | with_reducible exact kit_str_bool | with_reducible exact kit_str_str | with_reducible exact kit_str_list | with_reducible exact kit_str_tuple | with_reducible exact kit_list_int | with_reducible exact kit_list_bool | with_reducible exact kit_list_str | with_reducible exact kit_list_list | with_reducible exact kit_list_tuple | with_reducible exact kit_tuple_int | with_reducible exact kit_tuple_bool | with_reducible exact kit_tuple_str | with_reducible exact kit_tuple_list | with_reducible exact kit_tuple_tuple | assumption | rfl) | with_reducible assumption)
local macro_rules | `(tactic| walk_at "rs") => `(tactic| first | with_reducible exact rs_slL | with_reducible exact rs_slU | ((with_reducible apply rs_slT); walk_at "sd"))
local macro_rules | `(tactic| walk_at "ru") => `(tactic| first | ((with_reducible apply ru_rev); walk_at "sd") | with_reducible exact ru_neg)
local macro_rules | `(tactic| walk_at "rm") => `(tactic| first | with_reducible exact rm_count | with_reducible assumption)
local macro_rules | `(tactic| walk_at "eo") => `(tactic| first
  | ((with_reducible apply evo_lstX); (focus (walk_at "ev")); exact Nat.le_of_ble_eq_true rfl)
  | ((with_reducible apply evo_callS); (focus (walk_at "ev")); (focus (walk_at "fn")))
  | ((with_reducible apply evo_addL rfl); (focus (walk_at "ev")); (focus (walk_at "ev")); walk_at "sd")
  | ((with_reducible apply evo_listL rfl); walk_at "ev") | ((with_reducible apply evo_listU rfl); walk_at "ev")
  | with_reducible assumption)
local macro_rules | `(tactic| walk_at "ev") => `(tactic| first
  | (with_reducible assumption)
  | ((with_reducible apply ev_var); exact rfl)
  | with_reducible exact ev_int | with_reducible exact ev_str | with_reducible exact ev_bl | with_reducible exact ev_non | with_reducible exact ev_ty | with_reducible exact ev_ref
  | with_reducible exact eva_nil
  | ((with_reducible apply eva_cons); (focus (walk_at "ev")); (focus (walk_at "ev")))
  | ((with_reducible apply ev_op); (focus (walk_at "ev")); (focus (walk_at "ev")); (focus (walk_at "rv")))
  | ((with_reducible apply ev_cb); (focus (walk_at "ev")); (focus (walk_at "rc")))
  | ((with_reducible apply evt_test); (focus (walk_at "ev")))
  | ((with_reducible apply evt_b); (focus (walk_at "ev")))
  | ((with_reducible apply evt_not); (focus (walk_at "ev")))
  | ((with_reducible apply evt_and); (focus (walk_at "ev")); (focus (intro _; walk_at "ev")))
  | ((with_reducible apply evt_or); (focus (walk_at "ev")); (focus (intro _; walk_at "ev")))
  | with_reducible exact evt_yes
  | ((with_reducible apply ev_and); (focus (walk_at "ev")); (focus (intro _; walk_at "ev")))
  | ((with_reducible apply ev_or); (focus (walk_at "ev")); (focus (intro _; walk_at "ev")))
  | ((with_reducible apply ev_not); (focus (walk_at "ev")))
  | ((with_reducible apply ev_callS); (focus (walk_at "ev")); (focus (walk_at "fn")))
  | ((with_reducible apply ev_call); (focus (walk_at "ev")); (focus (walk_at "fn")))
  | ((with_reducible apply ev_tupX); (focus (walk_at "ev")); exact Nat.le_of_ble_eq_true rfl)
  | with_reducible exact evp_none
  | ((with_reducible apply evp_some); (focus (walk_at "ev")))
  | ((with_reducible apply ev_sl); (focus (walk_at "ev")); (focus (walk_at "ev")); (focus (walk_at "ev")); (focus (walk_at "rs")))
  | ((with_reducible apply ev_un); (focus (walk_at "ev")); (focus (walk_at "ru")))
  | ((with_reducible apply ev_bmT); (focus (walk_at "ev")); (focus (walk_at "ev")); (focus (walk_at "rm")))
  | ((with_reducible apply ev_bmT0); (focus (walk_at "ev")); (focus (walk_at "rm")))
  | ((with_reducible apply evi_list); (focus (walk_at "ev")))
  | ((with_reducible apply evi_tup); (focus (walk_at "ev")))
  | ((with_reducible apply evi_str); (focus (walk_at "ev")))
  | ((with_reducible apply evi_rng1); (focus (walk_at "ev")); (focus (constructor <;> walk_at "sd")))
  | ((with_reducible apply evi_rng2); (focus (walk_at "ev")); (focus (constructor <;> walk_at "sd")); (focus (constructor <;> walk_at "sd")))
  | ((with_reducible apply Ev.of_own); walk_at "eo")
  | with_reducible assumption)
local macro_rules | `(tactic| walk_at "st") => `(tactic| repeat (first
  | (with_reducible apply sv_seq)
  | ((with_reducible apply sv_set); (focus (walk_at "ev")); (focus (walk_at "at")))
  | ((with_reducible apply sv_drop); (focus (walk_at "ev")))
  | (with_reducible apply sv_next)))
local macro_rules | `(tactic| walk_at "eq") => `(tactic| (with_reducible apply ev_eq); (focus (walk_at "ev")); rfl)
theorem int4 (a b c e : Int) : ∀ k, k < 4 → ∃ i : Int, ([D.int a, .int b, .int c, .int e] : List D)[k]? = some (.int i)
  | 0, _ => ⟨_, rfl⟩
  | 1, _ => ⟨_, rfl⟩
  | 2, _ => ⟨_, rfl⟩
  | 3, _ => ⟨_, rfl⟩
theorem pure__law_same_option {mg : Str → Option Value} {w : World} (B : Bx) (T : Tx w B.K mg) (W : WX) (ds : List D) (R : Sl → Prop) (X : Xc → Prop) (h : F__law_same_option B.K ds R X) : Sv B W (t__law_same_option w B.K W) (ini N__law_same_option ds) { nx := fun _ => R (.dat .non), rt := R, xc := fun x _ => X x } := by
  obtain ⟨d, sec, st, rfl, hd, hR⟩ := h
  show Sv B W (t__law_same_option w B.K W) [.dat d, .dat d, .un] _
  unfold t__law_same_option
  rcases right_cases hd with ⟨b, rfl⟩ | ⟨a, b, c, e, rfl, _⟩
  · cases b with
    | true => exact sv_seq (sv_if (p := true) (evt_test (ev_op (b := .bl true) (by walk_at "ev") (by walk_at "ev") rv_isB)) (fun _ => sv_retD (ev_op (b := .bl true) (by walk_at "ev") (by walk_at "ev") rv_isB) hR) fun h => nomatch h)
    | false => exact sv_seq (sv_if (p := false) (evt_test (ev_op (b := .bl true) (by walk_at "ev") (by walk_at "ev") rv_isB)) (fun h => nomatch h) fun _ => sv_next (sv_seq (sv_if (p := true) (evt_test (ev_op (b := .bl false) (by walk_at "ev") (by walk_at "ev") rv_isB)) (fun _ => sv_retD (ev_op (b := .bl false) (by walk_at "ev") (by walk_at "ev") rv_isB) hR) fun h => nomatch h)))
  · refine sv_seq (sv_if (p := false) (evt_test (ev_op (b := .bl true) (by walk_at "ev") (by walk_at "ev") rv_isB)) (fun h => nomatch h) fun _ => sv_next ?_)
    refine sv_seq (sv_if (p := false) (evt_test (ev_op (b := .bl false) (by walk_at "ev") (by walk_at "ev") rv_isB)) (fun h => nomatch h) fun _ => sv_next ?_)
    refine sv_seq (sv_if (p := false) (evt_eq (evt_or (p := false) (evt_eq (evt_not (p := true) (evt_b (by walk_at "ev"))) rfl) fun _ => by walk_at "ev") (by rfl)) (fun h => nomatch h) fun _ => sv_next ?_)
    refine sv_seq (sv_forR (n := 4) (evi_rngN (eva_cons ev_int eva_nil) (by decide)) (fun k Γ' => ∃ c2 : Sl, Γ' = [.dat (.tup [.int a, .int b, .int c, .int e]), .dat (.tup [.int a, .int b, .int c, .int e]), c2]) ⟨_, rfl⟩ ?_ ?_)
    · rintro Γ' ⟨c2, rfl⟩
      exact sv_retD (by walk_at "ev") hR
    · rintro k Γ' hk ⟨c2, rfl⟩
      refine ⟨_, evg_name (by walk_at "at"), ?_⟩
      obtain ⟨i, hi⟩ := int4 a b c e k hk
      refine sv_if (p := false) (evt_eq (evt_or (p := false) (evt_eq (evt_not (p := true) (evt_b (ev_callS (eva_cons (ev_op (ev_var rfl) (ev_var rfl) (rv_ixU (atI_ofNat hi))) eva_nil) ⟨.int i, rfl, rfl, rfl⟩))) rfl) fun _ => evt_test (ev_op (ev_op (ev_var rfl) (ev_var rfl) (rv_ixU (atI_ofNat hi))) (ev_op (ev_var rfl) (ev_var rfl) (rv_ixU (atI_ofNat hi))) rv_neI)) ?_) (fun h => nomatch h) fun _ => sv_next ⟨_, rfl⟩
      rw [decide_eq_true rfl]; rfl
theorem pure__law_same_table {mg : Str → Option Value} {w : World} (B : Bx) (T : Tx w B.K mg) (W : WX) (ds : List D) (R : Sl → Prop) (X : Xc → Prop) (h : F__law_same_table B.K ds R X) : Sv B W (t__law_same_table w B.K W) (ini N__law_same_table ds) { nx := fun _ => R (.dat .non), rt := R, xc := fun x _ => X x } := by
  obtain ⟨r, first, sec, st, rfl, hr, hf, hs, ht, hR⟩ := h
  show Sv B W (t__law_same_table w B.K W) [.dat (.tup (r.map fun it => .tup (it.map .tup))), .dat (.lst (rwL r)), .un, .un, .un, .un] _
  unfold t__law_same_table
  have hrl : (rwL r).length = r.length := by unfold rwL; rw [List.length_map]
  refine sv_seq (sv_if (p := false) (evt_eq (evt_or (p := false) (evt_eq (evt_not (p := true) (evt_b (by walk_at "ev"))) rfl) fun _ => by walk_at "ev") (by rw [hrl, List.length_map, decide_eq_true rfl]; rfl)) (fun h => nomatch h) fun _ => sv_next ?_)
  refine sv_seq (sv_forR (n := r.length) (evi_rngN (ev_lenR (by walk_at "ev") hrl) (by have := hr.1; omega)) (fun k Γ' => ∃ c2 c3 c4 c5 : Sl, Γ' = [.dat (.tup (r.map fun it => .tup (it.map .tup))), .dat (.lst (rwL r)), c2, c3, c4, c5]) ⟨_, _, _, _, rfl⟩ ?_ ?_)
  · rintro Γ' ⟨c2, c3, c4, c5, rfl⟩
    exact sv_retD (by walk_at "ev") hR
  · rintro k Γ' hk ⟨c2, c3, c4, c5, rfl⟩
    refine ⟨_, evg_name (by walk_at "at"), ?_⟩
    have hit : r[k]? = some r[k] := List.getElem?_eq_getElem hk
    generalize r[k] = it at hit
    obtain ⟨hm1, hm2⟩ := hr.2 it (List.mem_of_getElem? hit)
    have hat : atI (rwL r) ((k : Nat) : Int) = some (.lst (it.map .lst)) := atI_ofNat (by unfold rwL; rw [List.getElem?_map, hit]; rfl)
    have hau : atI (r.map fun it => D.tup (it.map .tup)) ((k : Nat) : Int) = some (.tup (it.map .tup)) := atI_ofNat (by rw [List.getElem?_map, hit]; rfl)
    refine sv_seq (sv_if (p := false) (evt_eq (evt_or (p := false) (evt_eq (evt_not (p := true) (evt_b (by walk_at "ev"))) rfl) fun _ => by walk_at "ev") (by rw [List.length_map, List.length_map, decide_eq_true rfl]; rfl)) (fun h => nomatch h) fun _ => sv_next ?_)
    refine sv_forR (n := it.length) (evi_rngN (ev_lenR (l := it.map .lst) (by walk_at "ev") (by rw [List.length_map])) (by omega)) (fun j Γ' => ∃ c3 c4 c5 : Sl, Γ' = [.dat (.tup (r.map fun it => .tup (it.map .tup))), .dat (.lst (rwL r)), .dat (.int k), c3, c4, c5]) ⟨_, _, _, rfl⟩ ?_ ?_
    · rintro Γ' ⟨c3, c4, c5, rfl⟩
      exact ⟨_, _, _, _, rfl⟩
    · rintro j Γ' hj ⟨c3, c4, c5, rfl⟩
      refine ⟨_, evg_name (by walk_at "at"), ?_⟩
      have hos : it[j]? = some it[j] := List.getElem?_eq_getElem hj
      generalize it[j] = os at hos
      obtain ⟨ho1, ho2⟩ := hm2 os (List.mem_of_getElem? hos)
      have hbt : atI (it.map D.lst) ((j : Nat) : Int) = some (.lst os) := atI_ofNat (by rw [List.getElem?_map, hos]; rfl)
      have hbu : atI (it.map D.tup) ((j : Nat) : Int) = some (.tup os) := atI_ofNat (by rw [List.getElem?_map, hos]; rfl)
      refine sv_seq (sv_set (d := .tup os) (by walk_at "ev") (by walk_at "at") ?_)
      refine sv_seq (sv_if (p := false) (evt_eq (evt_or (p := false) (evt_eq (evt_not (p := true) (evt_b (by walk_at "ev"))) rfl) fun _ => by walk_at "ev") (by rw [decide_eq_true rfl]; rfl)) (fun h => nomatch h) fun _ => sv_next ?_)
      refine sv_forR (n := os.length) (evi_rngN (by walk_at "ev") (by omega)) (fun i Γ' => ∃ c5 : Sl, Γ' = [.dat (.tup (r.map fun it => .tup (it.map .tup))), .dat (.lst (rwL r)), .dat (.int k), .dat (.int j), .dat (.tup os), c5]) ⟨_, rfl⟩ ?_ ?_
      · rintro Γ' ⟨c5, rfl⟩
        exact ⟨_, _, _, rfl⟩
      · rintro i Γ' hi ⟨c5, rfl⟩
        refine ⟨_, evg_name (by walk_at "at"), ?_⟩
        have hx : os[i]? = some os[i] := List.getElem?_eq_getElem hi
        generalize os[i] = x at hx
        have hxt : atI os ((i : Nat) : Int) = some x := atI_ofNat hx
        exact sv_if (p := false) (evt_eq (evt_not (p := true) (evt_b (ev_callS (by walk_at "ev") ⟨x, sec, st, rfl, ho2 x (List.mem_of_getElem? hx), rfl⟩))) rfl) (fun h => nomatch h) fun _ => sv_next ⟨_, rfl⟩
theorem pure__law_same_machine {mg : Str → Option Value} {w : World} (B : Bx) (T : Tx w B.K mg) (W : WX) (ds : List D) (R : Sl → Prop) (X : Xc → Prop) (h : F__law_same_machine B.K ds R X) : Sv B W (t__law_same_machine w B.K W) (ini N__law_same_machine ds) { nx := fun _ => R (.dat .non), rt := R, xc := fun x _ => X x } := by
  obtain ⟨lt, r, first, sec, st, rfl, hr, hf, hs, ht, hR⟩ := h
  show Sv B W (t__law_same_machine w B.K W) [.dat (.obj (He.ga B.K "TwoTape") (mcFs lt sec r)), .dat (.str (tx lt)), .dat (.int sec), .dat (rwD r)] _
  unfold t__law_same_machine
  have f1 : Ev B (tFld B.K (tVar 0) "letters") [.dat (.obj (He.ga B.K "TwoTape") (mcFs lt sec r)), .dat (.str (tx lt)), .dat (.int sec), .dat (rwD r)] (.str (tx lt)) := ev_fld (ev_var rfl) T.cl_TwoTape T.na_TwoTape_letters rfl
  have f2 : Ev B (tFld B.K (tVar 0) "second_symbols") [.dat (.obj (He.ga B.K "TwoTape") (mcFs lt sec r)), .dat (.str (tx lt)), .dat (.int sec), .dat (rwD r)] (.int sec) := ev_fld (ev_var rfl) T.cl_TwoTape T.na_TwoTape_second_symbols rfl
  have f3 : Ev B (tFld B.K (tVar 0) "table") [.dat (.obj (He.ga B.K "TwoTape") (mcFs lt sec r)), .dat (.str (tx lt)), .dat (.int sec), .dat (rwD r)] (tbD r) := ev_fld (ev_var rfl) T.cl_TwoTape T.na_TwoTape_table rfl
  refine sv_seq (sv_if (p := false) (evt_eq (evt_or (p := false) (evt_eq (evt_not (p := true) (evt_b (ev_cb (by walk_at "ev") (rc_isiC T.cl_TwoTape T.is_TwoTape T.k_TwoTape_TwoTape)))) rfl) fun _ => evt_or (p := false) (evt_eq (evt_not (p := true) (evt_b (ev_cb (eva_cons f1 (by walk_at "ev")) (by walk_at "rc")))) rfl) fun _ => evt_test (ev_op f1 (ev_var rfl) rv_neT)) (by rw [decide_eq_true rfl]; rfl)) (fun h => nomatch h) fun _ => sv_next ?_)
  refine sv_seq (sv_if (p := false) (evt_eq (evt_or (p := false) (evt_eq (evt_not (p := true) (evt_b (ev_callS (eva_cons f2 eva_nil) ⟨_, rfl, rfl, rfl⟩))) rfl) fun _ => evt_test (ev_op f2 (ev_var rfl) rv_neI)) (by rw [decide_eq_true rfl]; rfl)) (fun h => nomatch h) fun _ => sv_next ?_)
  exact sv_retD (ev_callS (eva_cons f3 (by walk_at "ev")) ⟨r, first, sec, st, rfl, hr, hf, hs, ht, rfl⟩) hR

end L

namespace L
open PySem PySem.Spec PyProof.Rows L2 Z
local macro_rules | `(tactic| walk_at "at") => `(tactic| first | with_reducible exact SetAt.zero | ((with_reducible apply SetAt.succ); walk_at "at"))
local macro_rules | `(tactic| walk_at "sd") => `(tactic| first | (with_reducible assumption) | omega | (simp only [rep_length, List.length_append, List.length_cons, List.length_nil, List.length_map, List.length_replicate, List.length_range, List.length_take, List.length_reverse] <;> omega) | decide | exact Nat.le_of_ble_eq_true rfl)
local macro_rules | `(tactic| walk_at "cm") => `(tactic| first | (with_reducible assumption) | (refine cmul_s ?_ ?_ ?_ ?_ <;> first | omega | decide))
local macro_rules | `(tactic| walk_at "rv") => `(tactic| first
  | with_reducible exact rv_add | ((with_reducible apply rv_addT); walk_at "sd") | ((with_reducible apply rv_addL); walk_at "sd") | ((with_reducible apply rv_addU); walk_at "sd")
  | with_reducible exact rv_sub | ((with_reducible apply rv_mul); walk_at "cm") | ((with_reducible apply rv_mulT) <;> walk_at "sd")
  | ((with_reducible apply rv_div); first | assumption | exact cdiv_s (by walk_at "sd") (by walk_at "sd")) | ((with_reducible apply rv_mod); walk_at "sd") | ((with_reducible apply rv_pow); exact ⟨by decide, by decide, by decide⟩)
  | with_reducible exact rv_lt | with_reducible exact rv_le | with_reducible exact rv_gt | with_reducible exact rv_ge
  | with_reducible exact rv_eqI | with_reducible exact rv_eqT | with_reducible exact rv_eqB | with_reducible exact rv_neI | with_reducible exact rv_neT | with_reducible exact rv_neB
  | ((with_reducible apply rv_ixL); first | with_reducible assumption | exact rfl) | ((with_reducible apply rv_ixU); first | with_reducible assumption | exact rfl) | ((with_reducible apply rv_ixT); (focus (first | with_reducible assumption | exact rfl)); walk_at "sd")
  | with_reducible exact rv_isN | with_reducible exact rv_isN' | with_reducible exact rv_notN'
  | with_reducible exact rv_inT | with_reducible exact rv_ninT | with_reducible exact rv_inTs | with_reducible exact rv_ninTs | with_reducible assumption)
local macro_rules | `(tactic| walk_at "rc") => `(tactic| first | with_reducible exact rc_int | with_reducible exact rc_intB | with_reducible exact rc_lenL | with_reducible exact rc_lenU | ((with_reducible apply rc_lenT); walk_at "sd") | with_reducible exact rc_min | with_reducible exact rc_tupleL | with_reducible exact rc_tupleU | with_reducible exact rc_listL | with_reducible exact rc_listU | with_reducible exact rc_max | ((with_reducible apply rc_isi); (focus (exact rfl)); first | with_reducible exact kitT | with_reducible exact kit_NoneType_int | with_reducible exact kit_NoneType_bool | with_reducible exact kit_NoneType_str | with_reducible exact kit_NoneType_list | with_reducible exact kit_NoneType_tuple | with_reducible exact kit_bool_int | with_reducible exact kit_bool_bool | with_reducible exact kit_bool_str | with_reducible exact kit_bool_list | with_reducible exact kit_bool_tuple | with_reducible exact kit_int_int | with_reducible exact kit_int_bool | with_reducible exact kit_int_str | with_reducible exact kit_int_list | with_reducible exact kit_int_tuple | with_reducible exact kit_str_int | with_reducible exact kit_str_bool | with_reducible exact kit_str_str | with_reducible exact kit_str_list | with_reducible exact kit_str_tuple | with_reducible exact kit_list_int | with_reducible exact kit_list_bool | with_reducible exact kit_list_str | with_reducible exact kit_list_list | with_reducible exact kit_list_tuple | with_reducible exact kit_tuple_int | with_reducible exact kit_tuple_bool | with_reducible exact kit_tuple_str | with_reducible exact kit_tuple_list | with_reducible exact kit_tuple_tuple | assumption | rfl) | with_reducible assumption)
local macro_rules | `(tactic| walk_at "rs") => `(tactic| first | with_reducible exact rs_slL | with_reducible exact rs_slU | ((with_reducible apply rs_slT); walk_at "sd"))
local macro_rules | `(tactic| walk_at "ru") => `(tactic| first | ((with_reducible apply ru_rev); walk_at "sd") | with_reducible exact ru_neg)
local macro_rules | `(tactic| walk_at "rm") => `(tactic| first | with_reducible exact rm_count | with_reducible assumption)
local macro_rules | `(tactic| walk_at "eo") => `(tactic| first
  | ((with_reducible apply evo_lstX); (focus (walk_at "ev")); exact Nat.le_of_ble_eq_true rfl)
  | ((with_reducible apply evo_callS); (focus (walk_at "ev")); (focus (walk_at "fn")))
  | ((with_reducible apply evo_addL rfl); (focus (walk_at "ev")); (focus (walk_at "ev")); walk_at "sd")
  | ((with_reducible apply evo_listL rfl); walk_at "ev") | ((with_reducible apply evo_listU rfl); walk_at "ev")
  | with_reducible assumption)
local macro_rules | `(tactic| walk_at "ev") => `(tactic| first
  | (with_reducible assumption)
  | ((with_reducible apply ev_var); exact rfl)
  | with_reducible exact ev_int | with_reducible exact ev_str | with_reducible exact ev_bl | with_reducible exact ev_non | with_reducible exact ev_ty | with_reducible exact ev_ref
  | with_reducible exact eva_nil
  | ((with_reducible apply eva_cons); (focus (walk_at "ev")); (focus (walk_at "ev")))
  | ((with_reducible apply ev_op); (focus (walk_at "ev")); (focus (walk_at "ev")); (focus (walk_at "rv")))
  | ((with_reducible apply ev_cb); (focus (walk_at "ev")); (focus (walk_at "rc")))
  | ((with_reducible apply evt_test); (focus (walk_at "ev")))
  | ((with_reducible apply evt_b); (focus (walk_at "ev")))
  | ((with_reducible apply evt_not); (focus (walk_at "ev")))
  | ((with_reducible apply evt_and); (focus (walk_at "ev")); (focus (intro _; walk_at "ev")))
  | ((with_reducible apply evt_or); (focus (walk_at "ev")); (focus (intro _; walk_at "ev")))
  | with_reducible exact evt_yes
  | ((with_reducible apply ev_and); (focus (walk_at "ev")); (focus (intro _; walk_at "ev")))
  | ((with_reducible apply ev_or); (focus (walk_at "ev")); (focus (intro _; walk_at "ev")))
  | ((with_reducible apply ev_not); (focus (walk_at "ev")))
  | ((with_reducible apply ev_callS); (focus (walk_at "ev")); (focus (walk_at "fn")))
  | ((with_reducible apply ev_call); (focus (walk_at "ev")); (focus (walk_at "fn")))
  | ((with_reducible apply ev_tupX); (focus (walk_at "ev")); exact Nat.le_of_ble_eq_true rfl)
  | with_reducible exact evp_none
  | ((with_reducible apply evp_some); (focus (walk_at "ev")))
  | ((with_reducible apply ev_sl); (focus (walk_at "ev")); (focus (walk_at "ev")); (focus (walk_at "ev")); (focus (walk_at "rs")))
  | ((with_reducible apply ev_un); (focus (walk_at "ev")); (focus (walk_at "ru")))
  | ((with_reducible apply ev_bmT); (focus (walk_at "ev")); (focus (walk_at "ev")); (focus (walk_at "rm")))
  | ((with_reducible apply ev_bmT0); (focus (walk_at "ev")); (focus (walk_at "rm")))
  | ((with_reducible apply evi_list); (focus (walk_at "ev")))
  | ((with_reducible apply evi_tup); (focus (walk_at "ev")))
  | ((with_reducible apply evi_str); (focus (walk_at "ev")))
  | ((with_reducible apply evi_rng1); (focus (walk_at "ev")); (focus (constructor <;> walk_at "sd")))
  | ((with_reducible apply evi_rng2); (focus (walk_at "ev")); (focus (constructor <;> walk_at "sd")); (focus (constructor <;> walk_at "sd")))
  | ((with_reducible apply Ev.of_own); walk_at "eo")
  | with_reducible assumption)
local macro_rules | `(tactic| walk_at "st") => `(tactic| repeat (first
  | (with_reducible apply sv_seq)
  | ((with_reducible apply sv_set); (focus (walk_at "ev")); (focus (walk_at "at")))
  | ((with_reducible apply sv_drop); (focus (walk_at "ev")))
  | (with_reducible apply sv_next)))
local macro_rules | `(tactic| walk_at "eq") => `(tactic| (with_reducible apply ev_eq); (focus (walk_at "ev")); rfl)
theorem bad_none {lt txt : List Nat} (h : ∀ c ∈ txt, c ∈ lt) : badIdx lt txt = none := by
  unfold badIdx
  rw [List.findIdx?_eq_none_iff]
  intro c hc
  simp [h c hc]
theorem bad_some {lt txt : List Nat} {i c : Nat} (hi : txt[i]? = some c) (hc : c ∉ lt) (hp : ∀ j c', j < i → txt[j]? = some c' → c' ∈ lt) : badIdx lt txt = some i := by
  obtain ⟨hl, e⟩ := List.getElem?_eq_some_iff.mp hi
  unfold badIdx
  rw [List.findIdx?_eq_some_iff_getElem]
  refine ⟨hl, by rw [e]; simp [hc], fun j hj => ?_⟩
  simp [hp j _ hj (List.getElem?_eq_getElem (by omega))]
theorem bad_cases (lt txt : List Nat) : (badIdx lt txt = none ∧ ∀ c ∈ txt, c ∈ lt) ∨ ∃ i, badIdx lt txt = some i := by
  cases e : badIdx lt txt with
  | some i => exact .inr ⟨i, rfl⟩
  | none =>
    unfold badIdx at e
    rw [List.findIdx?_eq_none_iff] at e
    exact .inl ⟨rfl, fun c hc => by simpa using e c hc⟩
theorem res_word {r : Rw} {syms : List Nat} {n k : Nat} {b : Bool} (h : ∀ j, j < k → wdN r syms j = none) (hk : k ≤ n) (e : optO r syms (cfN r syms k) = .bl b) : Res r syms n k (some b) := ⟨h, hk, .inl ⟨b, rfl, by unfold wdN; rw [e]; rfl⟩⟩
theorem wd_tup {r : Rw} {syms : List Nat} {k : Nat} {l : List D} (e : optO r syms (cfN r syms k) = .tup l) : wdN r syms k = none := by unfold wdN; rw [e]; rfl
theorem upto {P : Nat → Prop} {k : Nat} (h : ∀ j, j < k → P j) (hk : P k) : ∀ j, j < k + 1 → P j := fun j hj => by
  rcases Nat.lt_or_ge j k with q | q
  · exact h j q
  · have : j = k := by omega
    rw [this]; exact hk
theorem pure_play_two {mg : Str → Option Value} {w : World} (B : Bx) (T : Tx w B.K mg) (W : WX) (ds : List D) (R : Sl → Prop) (X : Xc → Prop) (h : F_play_two B.K ds R X) : Sv B W (t_play_two w B.K W) (ini N_play_two ds) { nx := fun _ => R (.dat .non), rt := R, xc := fun x _ => X x } := by
  obtain ⟨lt, txt, r, sec, st, most, rfl, ht, hs0, hst0, hlt, htx, hmost, hok, hbad⟩ := h
  show Sv B W (t_play_two w B.K W) [.dat (mcD B.K lt sec r), .dat (.str (tx txt)), .dat (.int most), .un, .un, .un, .un, .un, .un, .un, .un, .un] _
  unfold t_play_two
  have f1 : ∀ Γ : List Sl, Γ[0]? = some (.dat (mcD B.K lt sec r)) → Ev B (tFld B.K (tVar 0) "letters") Γ (.str (tx lt)) := fun Γ h => ev_fld (ev_var h) T.cl_TwoTape T.na_TwoTape_letters rfl
  have f3 : ∀ Γ : List Sl, Γ[0]? = some (.dat (mcD B.K lt sec r)) → Ev B (tFld B.K (tVar 0) "table") Γ (.tup (r.map fun it => .tup (it.map .tup))) := fun Γ h => ev_fld (ev_var h) T.cl_TwoTape T.na_TwoTape_table rfl
  refine sv_seq (sv_setO (w := .dk []) evo_dnew (by walk_at "at") ?_)
  refine sv_seq (sv_forI (fun p : Nat × Nat => .tup [.int (p.2 : Nat), .str (tx [p.1])]) txt.zipIdx (evi_enumS (by walk_at "ev")) (fun i Γ' => (∀ j c, j < i → txt[j]? = some c → c ∈ lt) ∧ ∃ ks : List (Key × D), ks.length ≤ i ∧ (∀ j : Int, valD ks (.inl j) = if 0 ≤ j ∧ j < (i : Nat) then some (.int ((symsOf lt txt).getD j.toNat 0 : Nat)) else none) ∧ ∃ c4 c5 : Sl, Γ' = [.dat (mcD B.K lt sec r), .dat (.str (tx txt)), .dat (.int most), .own (.dk ks), c4, c5, .un, .un, .un, .un, .un, .un]) ⟨fun j c h => by omega, [], Nat.le_refl _, fun j => by rw [if_neg (by omega)]; rfl, _, _, rfl⟩ ?_ ?_)
  rotate_left
  · rintro i ⟨c, n⟩ Γ' hi ⟨hp, ks, hkl, hkv, c4, c5, rfl⟩
    obtain ⟨h1, h2⟩ := zip_at hi
    simp only at h1 h2
    subst h2
    refine ⟨_, evg_tup (evgs_cons (evg_name (by walk_at "at")) (evgs_cons (evg_name (by walk_at "at")) evgs_nil)) rfl, ?_⟩
    have hil : n < txt.length := (List.getElem?_eq_some_iff.mp h1).1
    by_cases hc : c ∈ lt
    · refine sv_seq (sv_if (p := false) (evt_eq (evt_test (ev_op (ev_var rfl) (f1 _ rfl) rv_ninT)) (by rw [decide_eq_true hc]; rfl)) (fun h => nomatch h) fun _ => sv_next ?_)
      refine sv_stDi (i := (n : Int)) rfl (ev_op (ev_bmT (f1 _ rfl) (by walk_at "ev") (rm_index hc)) ev_int rv_add) (ev_var rfl) (by omega) (by walk_at "at") ?_
      refine ⟨fun j c' hj hc' => ?_, _, ?_, fun j => ?_, _, _, rfl⟩
      · by_cases e : j = n
        · subst e; rw [h1] at hc'; cases hc'; exact hc
        · exact hp j c' (by omega) hc'
      · have := putD_len1 ks (.inl (n : Int)) (.int (((lt.idxOf c : Nat) : Int) + 1))
        omega
      · rw [valD_put, hkv]
        have hsy : (symsOf lt txt).getD n 0 = lt.idxOf c + 1 := by unfold symsOf; rw [List.getD_eq_getElem?_getD, List.getElem?_map, h1]; rfl
        by_cases e : j = (n : Int)
        · subst e
          rw [if_pos rfl, if_pos (by omega), Int.toNat_natCast, hsy]
          rfl
        · rw [if_neg (fun q => e (Sum.inl.inj q))]
          by_cases q : 0 ≤ j ∧ j < (n : Int)
          · rw [if_pos q, if_pos (by omega)]
          · rw [if_neg q, if_neg (by omega)]
    · exact sv_seq (sv_if (p := true) (evt_eq (evt_test (ev_op (ev_var rfl) (f1 _ rfl) rv_ninT)) (by rw [decide_eq_false hc]; rfl)) (fun _ => svr1 (d := .int n) (eva_cons (ev_var rfl) eva_nil) (hbad n (bad_some h1 hc hp))) fun h => nomatch h)
  rintro Γ' ⟨hp, ks, hkl, hkv, c4, c5, rfl⟩
  rw [List.length_zipIdx] at hp hkl hkv
  have hin : ∀ c ∈ txt, c ∈ lt := fun c hc => by
    obtain ⟨i, hi⟩ := List.mem_iff_getElem?.mp hc
    exact hp i c (List.getElem?_eq_some_iff.mp hi).1 hi
  have hsyl : (symsOf lt txt).length = txt.length := by unfold symsOf; rw [List.length_map]
  have hsy := syms_lt hin
  have hR := hok hin
  refine sv_freezeD 3 rfl (by walk_at "at") ?_
  refine sv_seq (sv_setO (w := .dk []) evo_dnew (by walk_at "at") ?_)
  refine sv_seq (sv_set (by walk_at "ev") (by walk_at "at") ?_)
  refine sv_seq (sv_set (by walk_at "ev") (by walk_at "at") ?_)
  refine sv_seq (sv_set (by walk_at "ev") (by walk_at "at") ?_)
  refine sv_seq (sv_set (by walk_at "ev") (by walk_at "at") ?_)
  refine sv_while (fun k : Nat => most - k) (fun k Γ' => k ≤ most ∧ (∀ j, j < k → wdN r (symsOf lt txt) j = none) ∧ ∃ c11 : Sl, Γ' = [.dat (mcD B.K lt sec r), .dat (.str (tx txt)), .dat (.int most), .dat (.dk ks), c4, c5, .own (.dk (cfN r (symsOf lt txt) k).ks), .dat (.int (cfN r (symsOf lt txt) k).one), .dat (.int (cfN r (symsOf lt txt) k).two), .dat (.int (cfN r (symsOf lt txt) k).st), .dat (.int k), c11]) 0 ⟨by omega, fun j h => by omega, _, rfl⟩ ?_
  rintro k Γ' ⟨hk, hno, c11, rfl⟩
  refine ⟨true, evt_b ev_bl, (fun h => nomatch h), fun _ => ?_⟩
  have ho := cf_ok ht hsy (by omega) hs0 hst0 k
  obtain ⟨a1, a2, e1, e2, e3, hrt⟩ := opt_right ht hsy (by omega) hs0 ho
  have hstep : cfN r (symsOf lt txt) (k + 1) = stepO (cfN r (symsOf lt txt) k) (optO r (symsOf lt txt) (cfN r (symsOf lt txt) k)) := rfl
  have hres : ∀ b, optO r (symsOf lt txt) (cfN r (symsOf lt txt) k) = .bl b → Res r (symsOf lt txt) most k (some b) := fun b e => res_word hno hk e
  have hwt : ∀ l, optO r (symsOf lt txt) (cfN r (symsOf lt txt) k) = .tup l → wdN r (symsOf lt txt) k = none := fun l e => wd_tup e
  have htv := tv_get ho
  have hseen : (valD ks (.inl (cfN r (symsOf lt txt) k).one)).getD (.int 0) = .int (seenOf (symsOf lt txt) (cfN r (symsOf lt txt) k).one : Nat) := by
    rw [hkv]
    unfold seenOf
    rw [hsyl]
    split <;> rfl
  have hkl2 := ho.ln
  generalize hcf : cfN r (symsOf lt txt) k = c at *
  obtain ⟨cks, one, two, s⟩ := c
  generalize hop : optO r (symsOf lt txt) ⟨cks, one, two, s⟩ = o at *
  have hau : atI (r.map fun it => D.tup (it.map .tup)) ((s : Nat) : Int) = some (.tup ((r.getD s []).map .tup)) := atI_ofNat (by rw [List.getElem?_map, e1]; rfl)
  have hbu : atI ((r.getD s []).map D.tup) ((seenOf (symsOf lt txt) one : Nat) : Int) = some (.tup (rowO r (symsOf lt txt) ⟨cks, one, two, s⟩)) := atI_ofNat (by rw [List.getElem?_map, e2]; rfl)
  have hcu : atI (rowO r (symsOf lt txt) ⟨cks, one, two, s⟩) ((tvOf cks two : Nat) : Int) = some o := atI_ofNat e3
  refine sv_seq (sv_set (d := o) (ev_op (ev_op (ev_op (f3 _ rfl) (ev_var rfl) (rv_ixU hau)) (ev_eq (ev_dget2i (ev_var rfl) (ev_var rfl) ev_int) hseen) (rv_ixU hbu)) (ev_eq (ev_thawD (n := 6) rfl (by rw [htv]; rfl) (ev_dget2i (ev_var rfl) (ev_var rfl) ev_int)) htv) (rv_ixU hcu)) (by walk_at "at") ?_)
  rcases right_cases hrt with ⟨b, rfl⟩ | ⟨a, b, c, e, rfl, ba, bb, bc, be⟩
  · refine sv_seq (sv_if (p := true) (evt_eq (evt_not (p := false) (evt_b (by walk_at "ev"))) rfl) (fun _ => ?_) fun h => nomatch h)
    exact sv_ret (by walk_at "ev") (hR k (some b) (hres b rfl))
  · refine sv_seq (sv_if (p := false) (evt_eq (evt_not (p := true) (evt_b (by walk_at "ev"))) rfl) (fun h => nomatch h) fun _ => sv_next ?_)
    have hw0 := hwt _ rfl
    by_cases hkm : k = most
    · subst hkm
      exact sv_seq (sv_if (p := true) (evt_eq (by walk_at "ev") (decide_eq_true rfl)) (fun _ => sv_retD (d := .tup [.int k, .non]) (by walk_at "ev") (hR k none ⟨hno, Nat.le_refl _, .inr ⟨rfl, rfl, hw0⟩⟩)) fun h => nomatch h)
    · refine sv_seq (sv_if (p := false) (evt_eq (by walk_at "ev") (decide_eq_false (by omega))) (fun h => nomatch h) fun _ => sv_next ?_)
      have x0 : atI [D.int a, .int b, .int c, .int e] (0 : Int) = some (.int a) := rfl
      have x1 : atI [D.int a, .int b, .int c, .int e] (1 : Int) = some (.int b) := rfl
      have x2 : atI [D.int a, .int b, .int c, .int e] (2 : Int) = some (.int c) := rfl
      have x3 : atI [D.int a, .int b, .int c, .int e] (3 : Int) = some (.int e) := rfl
      refine sv_seq (sv_stDi (i := two) (n := 6) rfl (ev_op (ev_var rfl) ev_int (rv_ixU x1)) (ev_var rfl) (by show cks.length < _; have : cks.length ≤ k := hkl2; omega) (by walk_at "at") ?_)
      refine sv_seq (sv_set (ev_op (ev_var rfl) (ev_op (ev_var rfl) ev_int (rv_ixU x0)) rv_add) (by walk_at "at") ?_)
      refine sv_seq (sv_set (ev_op (ev_var rfl) (ev_op (ev_var rfl) ev_int (rv_ixU x2)) rv_add) (by walk_at "at") ?_)
      refine sv_seq (sv_set (ev_op (ev_var rfl) ev_int (rv_ixU x3)) (by walk_at "at") ?_)
      refine sv_set (d := .int ((k + 1 : Nat) : Int)) (ev_eq (by walk_at "ev") (congrArg D.int (by omega))) (by walk_at "at") ⟨k + 1, by omega, by omega, upto hno hw0, .dat (.tup [.int a, .int b, .int c, .int e]), ?_⟩
      rw [hstep]
      show _ = [_, _, _, _, _, _, _, _, _, Sl.dat (.int (e.toNat : Nat)), _, _]
      rw [Int.toNat_of_nonneg be.1]
      rfl
theorem pure__law_bad_index {mg : Str → Option Value} {w : World} (B : Bx) (T : Tx w B.K mg) (W : WX) (ds : List D) (R : Sl → Prop) (X : Xc → Prop) (h : F__law_bad_index B.K ds R X) : Sv B W (t__law_bad_index w B.K W) (ini N__law_bad_index ds) { nx := fun _ => R (.dat .non), rt := R, xc := fun x _ => X x } := by
  obtain ⟨lt, txt, r, sec, st, most, rfl, ht, hs0, hst0, hlt, htx, hmost, hR⟩ := h
  show Sv B W (t__law_bad_index w B.K W) [.dat (mcD B.K lt sec r), .dat (.str (tx txt)), .dat (.int most), .un] _
  unfold t__law_bad_index
  refine sv_seq (svt_as (i := 3) (Nat.le_of_ble_eq_true rfl) fun W' => ?_)
  rcases bad_cases lt txt with ⟨hb, hin⟩ | ⟨i, hb⟩
  · rw [hb] at hR
    refine sv_dropE (eve_callF (by walk_at "ev") ⟨lt, txt, r, sec, st, most, rfl, ht, hs0, hst0, hlt, htx, hmost, fun _ m v _ => ⟨_, rfl, sv_retD (by walk_at "ev") hR⟩, fun i e => by rw [hb] at e; cases e⟩)
  · rw [hb] at hR
    refine svx_drop (evx_call (x := xBT B.K i) (by walk_at "ev") ⟨lt, txt, r, sec, st, most, rfl, ht, hs0, hst0, hlt, htx, hmost, fun hin => ?_, fun j e => by rw [hb] at e; cases e; rfl⟩) ?_
    · rw [bad_none hin] at hb; cases hb
    · refine .inl ⟨T.m_BadText_ClockError, rfl, fun a d' => ?_, fun q => nomatch q⟩
      show Sv B _ _ [.dat (mcD B.K lt sec r), .dat (.str (tx txt)), .dat (.int most), .dat (.xc a d' [("index", .int i)])] _
      refine sv_seq (sv_if (p := true) (evt_and (p := true) (q := true) (evt_b (ev_isG (by walk_at "ev") T.c_BadText T.k_BadText_BadText)) fun _ => evt_and (p := true) (q := true) (evt_not (p := false) (evt_b (ev_isG (by walk_at "ev") T.c_BadText T.k_BadText_BadTable))) fun _ => evt_not (p := false) (evt_b (ev_isG (by walk_at "ev") T.c_BadText T.k_BadText_BadLetters))) (fun _ => ?_) fun h => nomatch h)
      exact sv_ret (ev_xg (by walk_at "ev") T.y_BadText T.n_BadText_index rfl) hR
theorem pure__law_walk {mg : Str → Option Value} {w : World} (B : Bx) (T : Tx w B.K mg) (W : WX) (ds : List D) (R : Sl → Prop) (X : Xc → Prop) (h : F__law_walk B.K ds R X) : Sv B W (t__law_walk w B.K W) (ini N__law_walk ds) { nx := fun _ => R (.dat .non), rt := R, xc := fun x _ => X x } := by
  obtain ⟨r, first, sec, st, syms, most, rfl, ht, hf0, hs0, hst0, hsy, hsl, hmost, hR⟩ := h
  show Sv B W (t__law_walk w B.K W) [.dat (.lst (rwL r)), .dat (.lst (syms.map natD)), .dat (.int most), .un, .un, .un, .un, .un, .un, .un] _
  unfold t__law_walk
  refine sv_seq (sv_setO (w := .dk []) evo_dnew (by walk_at "at") ?_)
  refine sv_seq (sv_set (by walk_at "ev") (by walk_at "at") ?_)
  refine sv_seq (sv_set (by walk_at "ev") (by walk_at "at") ?_)
  refine sv_seq (sv_set (by walk_at "ev") (by walk_at "at") ?_)
  refine sv_seq (sv_forR (n := most + 1) (evi_rngN (eva_cons (ev_eq (by walk_at "ev") (congrArg D.int (by omega))) eva_nil) (by omega)) (fun k Γ' => (∀ j, j < k → wdN r syms j = none) ∧ ∃ c : Cf, (k ≤ most → c = cfN r syms k) ∧ ∃ c7 c8 c9 : Sl, Γ' = [.dat (.lst (rwL r)), .dat (.lst (syms.map natD)), .dat (.int most), .own (.dk c.ks), .dat (.int c.one), .dat (.int c.two), .dat (.int c.st), c7, c8, c9]) ⟨fun j h => by omega, cf0, fun _ => rfl, _, _, _, rfl⟩ ?_ ?_)
  · rintro Γ' ⟨hno, c, _, c7, c8, c9, rfl⟩
    exact sv_retD (d := .tup [.int most, .non]) (by walk_at "ev") (hR most none ⟨fun j hj => hno j (by omega), Nat.le_refl _, .inr ⟨rfl, rfl, hno most (by omega)⟩⟩)
  · rintro k Γ' hk ⟨hno, c, hc, c7, c8, c9, rfl⟩
    refine ⟨_, evg_name (by walk_at "at"), ?_⟩
    have hce := hc (by omega)
    subst hce
    have ho := cf_ok ht hsy hf0 hs0 hst0 k
    obtain ⟨a1, a2, e1, e2, e3, hrt⟩ := opt_right ht hsy hf0 hs0 ho
    have hstep : cfN r syms (k + 1) = stepO (cfN r syms k) (optO r syms (cfN r syms k)) := rfl
    have hres : ∀ b, optO r syms (cfN r syms k) = .bl b → Res r syms most k (some b) := fun b e => res_word hno (by omega) e
    have hwt : ∀ l, optO r syms (cfN r syms k) = .tup l → wdN r syms k = none := fun l e => wd_tup e
    have htv := tv_get ho
    have hkl2 := ho.ln
    generalize hcf : cfN r syms k = c at *
    obtain ⟨cks, one, two, s⟩ := c
    generalize hop : optO r syms ⟨cks, one, two, s⟩ = o at *
    have hau : atI (rwL r) ((s : Nat) : Int) = some (.lst ((r.getD s []).map .lst)) := atI_ofNat (by unfold rwL; rw [List.getElem?_map, e1]; rfl)
    have hbu : atI ((r.getD s []).map D.lst) ((seenOf syms one : Nat) : Int) = some (.lst (rowO r syms ⟨cks, one, two, s⟩)) := atI_ofNat (by rw [List.getElem?_map, e2]; rfl)
    have hcu : atI (rowO r syms ⟨cks, one, two, s⟩) ((tvOf cks two : Nat) : Int) = some o := atI_ofNat e3
    refine sv_seq (sv_set (by walk_at "ev") (by walk_at "at") ?_)
    have rest : ∀ (sn : Int) (P' : Po), sn = (seenOf syms one : Nat) → (∀ Γ', ((∀ j, j < k + 1 → wdN r syms j = none) ∧ ∃ c : Cf, (k + 1 ≤ most → c = cfN r syms (k + 1)) ∧ ∃ c7 c8 c9 : Sl, Γ' = [.dat (.lst (rwL r)), .dat (.lst (syms.map natD)), .dat (.int most), .own (.dk c.ks), .dat (.int c.one), .dat (.int c.two), .dat (.int c.st), c7, c8, c9]) → P'.nx Γ') → (∀ s, R s → P'.rt s) → Sv B W (tSeq (tAsg (tOp (zIx B.K) (tOp (zIx B.K) (tOp (zIx B.K) (tVar 0) (tVar 6)) (tVar 8)) (tDGet2 (tVar 3) (tVar 5) (tC (.int 0)))) (gName 9))
      (tSeq (tIfS (tNot (tB (tCB (zIsi B.K) (tCons (tVar 9) (tCons (tC (.ty "tuple")) tNil))))) (tRet (tTup (tCons (tVar 7) (tCons (tVar 9) tNil)))) tNext)
      (tIfS (tTest (tOp zLt (tVar 7) (tVar 2))) (tSeq (tAsg (tOp (zIx B.K) (tVar 9) (tC (.int 1))) (gSub (tVar 3) (tVar 5) zSet))
      (tSeq (tAsg (tOp (zAdd B.K) (tVar 4) (tOp (zIx B.K) (tVar 9) (tC (.int 0)))) (gName 4))
      (tSeq (tAsg (tOp (zAdd B.K) (tVar 5) (tOp (zIx B.K) (tVar 9) (tC (.int 2)))) (gName 5))
      (tAsg (tOp (zIx B.K) (tVar 9) (tC (.int 3))) (gName 6))))) tNext))) [.dat (.lst (rwL r)), .dat (.lst (syms.map natD)), .dat (.int most), .own (.dk cks), .dat (.int one), .dat (.int two), .dat (.int s), .dat (.int k), .dat (.int sn), c9]
      P' := by
      rintro sn P' rfl hnx hrt'
      refine sv_seq (sv_set (d := o) (ev_op (ev_op (ev_op (ev_var rfl) (ev_var rfl) (rv_ixL hau)) (ev_var rfl) (rv_ixL hbu)) (ev_eq (ev_thawD (n := 3) rfl (by rw [htv]; rfl) (ev_dget2i (ev_var rfl) (ev_var rfl) ev_int)) htv) (rv_ixL hcu)) (by walk_at "at") ?_)
      rcases right_cases hrt with ⟨b, rfl⟩ | ⟨a, b, c, e, rfl, ba, bb, bc, be⟩
      · refine sv_seq (sv_if (p := true) (evt_eq (evt_not (p := false) (evt_b (by walk_at "ev"))) rfl) (fun _ => ?_) fun h => nomatch h)
        exact sv_ret (by walk_at "ev") (hrt' _ (hR k (some b) (hres b rfl)))
      · refine sv_seq (sv_if (p := false) (evt_eq (evt_not (p := true) (evt_b (by walk_at "ev"))) rfl) (fun h => nomatch h) fun _ => sv_next ?_)
        have hw0 := hwt _ rfl
        by_cases hkm : k < most
        · refine sv_if (p := true) (evt_eq (by walk_at "ev") (decide_eq_true (by omega))) (fun _ => ?_) fun h => nomatch h
          have x0 : atI [D.int a, .int b, .int c, .int e] (0 : Int) = some (.int a) := rfl
          have x1 : atI [D.int a, .int b, .int c, .int e] (1 : Int) = some (.int b) := rfl
          have x2 : atI [D.int a, .int b, .int c, .int e] (2 : Int) = some (.int c) := rfl
          have x3 : atI [D.int a, .int b, .int c, .int e] (3 : Int) = some (.int e) := rfl
          refine sv_seq (sv_stDi (i := two) (n := 3) rfl (ev_op (ev_var rfl) ev_int (rv_ixU x1)) (ev_var rfl) (by show cks.length < _; have : cks.length ≤ k := hkl2; omega) (by walk_at "at") ?_)
          refine sv_seq (sv_set (ev_op (ev_var rfl) (ev_op (ev_var rfl) ev_int (rv_ixU x0)) rv_add) (by walk_at "at") ?_)
          refine sv_seq (sv_set (ev_op (ev_var rfl) (ev_op (ev_var rfl) ev_int (rv_ixU x2)) rv_add) (by walk_at "at") ?_)
          refine sv_set (ev_op (ev_var rfl) ev_int (rv_ixU x3)) (by walk_at "at") (hnx _ ⟨upto hno hw0, _, fun _ => rfl, .dat (.int k), .dat (.int (seenOf syms one : Nat)), .dat (.tup [.int a, .int b, .int c, .int e]), ?_⟩)
          rw [hstep]
          show _ = [_, _, _, _, _, _, Sl.dat (.int (e.toNat : Nat)), _, _, _]
          rw [Int.toNat_of_nonneg be.1]
          rfl
        · exact sv_if (p := false) (evt_eq (by walk_at "ev") (decide_eq_false (by omega))) (fun h => nomatch h) fun _ => sv_next (hnx _ ⟨upto hno hw0, ⟨cks, one, two, s⟩, fun h => absurd h (by omega), _, _, _, rfl⟩)
    refine sv_seq (sv_if (evt_and (by walk_at "ev") fun _ => by walk_at "ev") (fun h => ?_) fun h => ?_)
    · simp only [Bool.and_eq_true, decide_eq_true_eq, List.length_map] at h
      have h : 0 ≤ one ∧ one < (syms.length : Nat) := h
      have hat : atI (syms.map natD) one = some (.int (seenOf syms one : Nat)) := by
        have := atI_ofNat (xs := syms.map natD) (n := one.toNat) (x := .int (seenOf syms one : Nat)) (by
          unfold seenOf
          rw [if_pos h, List.getElem?_map, List.getD_eq_getElem?_getD, List.getElem?_eq_getElem (show one.toNat < syms.length by omega)]; rfl)
        rwa [Int.toNat_of_nonneg h.1] at this
      exact sv_set (ev_op (ev_var rfl) (ev_var rfl) (rv_ixL hat)) (by walk_at "at") (rest _ _ rfl (fun _ h => h) fun _ h => h)
    · have h : ¬ (0 ≤ one ∧ one < (syms.length : Nat)) := by
        intro q
        rw [Bool.eq_false_iff] at h
        refine h ?_
        simp only [Bool.and_eq_true, decide_eq_true_eq, List.length_map]
        exact q
      exact sv_next (rest 0 _ (by unfold seenOf; rw [if_neg h]; rfl) (fun _ h => h) fun _ h => h)

end L

namespace L
open PySem PySem.Spec PyProof.Rows L2 Z
local macro_rules | `(tactic| walk_at "at") => `(tactic| first | with_reducible exact SetAt.zero | ((with_reducible apply SetAt.succ); walk_at "at"))
local macro_rules | `(tactic| walk_at "sd") => `(tactic| first | (with_reducible assumption) | omega | (simp only [rep_length, List.length_append, List.length_cons, List.length_nil, List.length_map, List.length_replicate, List.length_range, List.length_take, List.length_reverse] <;> omega) | decide | exact Nat.le_of_ble_eq_true rfl)
local macro_rules | `(tactic| walk_at "cm") => `(tactic| first | (with_reducible assumption) | (refine cmul_s ?_ ?_ ?_ ?_ <;> first | omega | decide))
local macro_rules | `(tactic| walk_at "rv") => `(tactic| first
  | with_reducible exact rv_add | ((with_reducible apply rv_addT); walk_at "sd") | ((with_reducible apply rv_addL); walk_at "sd") | ((with_reducible apply rv_addU); walk_at "sd")
  | with_reducible exact rv_sub | ((with_reducible apply rv_mul); walk_at "cm") | ((with_reducible apply rv_mulT) <;> walk_at "sd")
  | ((with_reducible apply rv_div); first | assumption | exact cdiv_s (by walk_at "sd") (by walk_at "sd")) | ((with_reducible apply rv_mod); walk_at "sd") | ((with_reducible apply rv_pow); exact ⟨by decide, by decide, by decide⟩)
  | with_reducible exact rv_lt | with_reducible exact rv_le | with_reducible exact rv_gt | with_reducible exact rv_ge
  | with_reducible exact rv_eqI | with_reducible exact rv_eqT | with_reducible exact rv_eqB | with_reducible exact rv_neI | with_reducible exact rv_neT | with_reducible exact rv_neB
  | ((with_reducible apply rv_ixL); first | with_reducible assumption | exact rfl) | ((with_reducible apply rv_ixU); first | with_reducible assumption | exact rfl) | ((with_reducible apply rv_ixT); (focus (first | with_reducible assumption | exact rfl)); walk_at "sd")
  | with_reducible exact rv_isN | with_reducible exact rv_isN' | with_reducible exact rv_notN'
  | with_reducible exact rv_inT | with_reducible exact rv_ninT | with_reducible exact rv_inTs | with_reducible exact rv_ninTs | with_reducible assumption)
local macro_rules | `(tactic| walk_at "rc") => `(tactic| first | with_reducible exact rc_int | with_reducible exact rc_intB | with_reducible exact rc_lenL | with_reducible exact rc_lenU | ((with_reducible apply rc_lenT); walk_at "sd") | with_reducible exact rc_min | with_reducible exact rc_tupleL | with_reducible exact rc_tupleU | with_reducible exact rc_listL | with_reducible exact rc_listU | with_reducible exact rc_max | ((with_reducible apply rc_isi); (focus (exact rfl)); first | with_reducible exact kitT | with_reducible exact kit_NoneType_int | with_reducible exact kit_NoneType_bool | with_reducible exact kit_NoneType_str | with_reducible exact kit_NoneType_list | with_reducible exact kit_NoneType_tuple | with_reducible exact kit_bool_int | with_reducible exact kit_bool_bool | with_reducible exact kit_bool_str | with_reducible exact kit_bool_list | with_reducible exact kit_bool_tuple | with_reducible exact kit_int_int | with_reducible exact kit_int_bool | with_reducible exact kit_int_str | with_reducible exact kit_int_list | with_reducible exact kit_int_tuple | with_reducible exact kit_str_int | with_reducible exact kit_str_bool | with_reducible exact kit_str_str | with_reducible exact kit_str_list | with_reducible exact kit_str_tuple | with_reducible exact kit_list_int | with_reducible exact kit_list_bool | with_reducible exact kit_list_str | with_reducible exact kit_list_list | with_reducible exact kit_list_tuple | with_reducible exact kit_tuple_int | with_reducible exact kit_tuple_bool | with_reducible exact kit_tuple_str | with_reducible exact kit_tuple_list | with_reducible exact kit_tuple_tuple | assumption | rfl) | with_reducible assumption)
local macro_rules | `(tactic| walk_at "rs") => `(tactic| first | with_reducible exact rs_slL | with_reducible exact rs_slU | ((with_reducible apply rs_slT); walk_at "sd"))
local macro_rules | `(tactic| walk_at "ru") => `(tactic| first | ((with_reducible apply ru_rev); walk_at "sd") | with_reducible exact ru_neg)
local macro_rules | `(tactic| walk_at "rm") => `(tactic| first | with_reducible exact rm_count | with_reducible assumption)
local macro_rules | `(tactic| walk_at "eo") => `(tactic| first
  | ((with_reducible apply evo_lstX); (focus (walk_at "ev")); exact Nat.le_of_ble_eq_true rfl)
  | ((with_reducible apply evo_callS); (focus (walk_at "ev")); (focus (walk_at "fn")))
  | ((with_reducible apply evo_addL rfl); (focus (walk_at "ev")); (focus (walk_at "ev")); walk_at "sd")
  | ((with_reducible apply evo_listL rfl); walk_at "ev") | ((with_reducible apply evo_listU rfl); walk_at "ev")
  | with_reducible assumption)
local macro_rules | `(tactic| walk_at "ev") => `(tactic| first
  | (with_reducible assumption)
  | ((with_reducible apply ev_var); exact rfl)
  | with_reducible exact ev_int | with_reducible exact ev_str | with_reducible exact ev_bl | with_reducible exact ev_non | with_reducible exact ev_ty | with_reducible exact ev_ref
  | with_reducible exact eva_nil
  | ((with_reducible apply eva_cons); (focus (walk_at "ev")); (focus (walk_at "ev")))
  | ((with_reducible apply ev_op); (focus (walk_at "ev")); (focus (walk_at "ev")); (focus (walk_at "rv")))
  | ((with_reducible apply ev_cb); (focus (walk_at "ev")); (focus (walk_at "rc")))
  | ((with_reducible apply evt_test); (focus (walk_at "ev")))
  | ((with_reducible apply evt_b); (focus (walk_at "ev")))
  | ((with_reducible apply evt_not); (focus (walk_at "ev")))
  | ((with_reducible apply evt_and); (focus (walk_at "ev")); (focus (intro _; walk_at "ev")))
  | ((with_reducible apply evt_or); (focus (walk_at "ev")); (focus (intro _; walk_at "ev")))
  | with_reducible exact evt_yes
  | ((with_reducible apply ev_and); (focus (walk_at "ev")); (focus (intro _; walk_at "ev")))
  | ((with_reducible apply ev_or); (focus (walk_at "ev")); (focus (intro _; walk_at "ev")))
  | ((with_reducible apply ev_not); (focus (walk_at "ev")))
  | ((with_reducible apply ev_callS); (focus (walk_at "ev")); (focus (walk_at "fn")))
  | ((with_reducible apply ev_call); (focus (walk_at "ev")); (focus (walk_at "fn")))
  | ((with_reducible apply ev_tupX); (focus (walk_at "ev")); exact Nat.le_of_ble_eq_true rfl)
  | with_reducible exact evp_none
  | ((with_reducible apply evp_some); (focus (walk_at "ev")))
  | ((with_reducible apply ev_sl); (focus (walk_at "ev")); (focus (walk_at "ev")); (focus (walk_at "ev")); (focus (walk_at "rs")))
  | ((with_reducible apply ev_un); (focus (walk_at "ev")); (focus (walk_at "ru")))
  | ((with_reducible apply ev_bmT); (focus (walk_at "ev")); (focus (walk_at "ev")); (focus (walk_at "rm")))
  | ((with_reducible apply ev_bmT0); (focus (walk_at "ev")); (focus (walk_at "rm")))
  | ((with_reducible apply evi_list); (focus (walk_at "ev")))
  | ((with_reducible apply evi_tup); (focus (walk_at "ev")))
  | ((with_reducible apply evi_str); (focus (walk_at "ev")))
  | ((with_reducible apply evi_rng1); (focus (walk_at "ev")); (focus (constructor <;> walk_at "sd")))
  | ((with_reducible apply evi_rng2); (focus (walk_at "ev")); (focus (constructor <;> walk_at "sd")); (focus (constructor <;> walk_at "sd")))
  | ((with_reducible apply Ev.of_own); walk_at "eo")
  | with_reducible assumption)
local macro_rules | `(tactic| walk_at "st") => `(tactic| repeat (first
  | (with_reducible apply sv_seq)
  | ((with_reducible apply sv_set); (focus (walk_at "ev")); (focus (walk_at "at")))
  | ((with_reducible apply sv_drop); (focus (walk_at "ev")))
  | (with_reducible apply sv_next)))
local macro_rules | `(tactic| walk_at "eq") => `(tactic| (with_reducible apply ev_eq); (focus (walk_at "ev")); rfl)
theorem pure__law_same_play {mg : Str → Option Value} {w : World} (B : Bx) (T : Tx w B.K mg) (W : WX) (ds : List D) (R : Sl → Prop) (X : Xc → Prop) (h : F__law_same_play B.K ds R X) : Sv B W (t__law_same_play w B.K W) (ini N__law_same_play ds) { nx := fun _ => R (.dat .non), rt := R, xc := fun x _ => X x } := by
  obtain ⟨m, v, rfl, hR⟩ := h
  show Sv B W (t__law_same_play w B.K W) [.dat (.tup [.int m, wD v]), .dat (.int m), .dat (wD v)] _
  unfold t__law_same_play
  have x0 : atI [D.int m, wD v] (0 : Int) = some (.int m) := rfl
  have x1 : atI [D.int m, wD v] (1 : Int) = some (wD v) := rfl
  refine sv_seq (sv_if (p := false) (evt_eq (evt_or (p := false) (evt_eq (evt_not (p := true) (evt_b (by walk_at "ev"))) rfl) fun _ => evt_or (p := false) (evt_eq (by walk_at "ev") (by rfl)) fun _ => evt_or (p := false) (evt_eq (evt_not (p := true) (evt_b (ev_callS (eva_cons (ev_op (ev_var rfl) ev_int (rv_ixU x0)) eva_nil) ⟨.int m, rfl, rfl, rfl⟩))) rfl) fun _ => evt_test (ev_op (ev_op (ev_var rfl) ev_int (rv_ixU x0)) (ev_var rfl) rv_neI)) (by rw [decide_eq_true rfl]; rfl)) (fun h => nomatch h) fun _ => sv_next ?_)
  cases v with
  | none => exact sv_seq (sv_if (p := true) (evt_test (ev_op (b := .non) (ev_var rfl) (by walk_at "ev") rv_isN')) (fun _ => sv_retD (ev_op (b := .non) (ev_op (ev_var rfl) ev_int (rv_ixU x1)) ev_non rv_isN') hR) fun h => nomatch h)
  | some b =>
    refine sv_seq (sv_if (p := false) (evt_test (ev_op (b := .non) (ev_var rfl) (by walk_at "ev") rv_isN')) (fun h => nomatch h) fun _ => sv_next ?_)
    cases b with
    | true => exact sv_seq (sv_if (p := true) (evt_b (ev_var rfl)) (fun _ => sv_retD (ev_op (b := .bl true) (ev_op (ev_var rfl) ev_int (rv_ixU x1)) ev_bl rv_isB) hR) fun h => nomatch h)
    | false => exact sv_seq (sv_if (p := false) (evt_b (ev_var rfl)) (fun h => nomatch h) fun _ => sv_next (sv_retD (ev_op (b := .bl false) (ev_op (ev_var rfl) ev_int (rv_ixU x1)) ev_bl rv_isB) hR))
theorem pure__law_plays {mg : Str → Option Value} {w : World} (B : Bx) (T : Tx w B.K mg) (W : WX) (ds : List D) (R : Sl → Prop) (X : Xc → Prop) (h : F__law_plays B.K ds R X) : Sv B W (t__law_plays w B.K W) (ini N__law_plays ds) { nx := fun _ => R (.dat .non), rt := R, xc := fun x _ => X x } := by
  obtain ⟨lt, txt, r, sec, st, most, other, rfl, ht, hs0, hst0, hlt, htx, hmost, hoth, hin, hR⟩ := h
  show Sv B W (t__law_plays w B.K W) [.dat (mcD B.K lt sec r), .dat (rwD r), .dat (.str (tx lt)), .dat (.str (tx txt)), .dat (.int most), .dat (.int other), .un, .un, .un, .un, .un] _
  unfold t__law_plays
  have hsyl : (symsOf lt txt).length = txt.length := by unfold symsOf; rw [List.length_map]
  have hsv : Ev B (tLc (iStr (tVar 3)) (gName 10) tYes (tOp (zAdd B.K) (tBM B.K "str" rIndexT (tVar 2) (tCons (tVar 10) tNil)) (tC (.int 1))) [10]) [.dat (mcD B.K lt sec r), .dat (rwD r), .dat (.str (tx lt)), .dat (.str (tx txt)), .dat (.int most), .dat (.int other), .un, .un, .un, .un, .un] (.lst ((symsOf lt txt).map natD)) := by
    have := evo_map1 (B := B) (wi := iStr (tVar 3)) (Γ := [.dat (mcD B.K lt sec r), .dat (rwD r), .dat (.str (tx lt)), .dat (.str (tx txt)), .dat (.int most), .dat (.int other), .un, .un, .un, .un, .un]) (te := tOp (zAdd B.K) (tBM B.K "str" rIndexT (tVar 2) (tCons (tVar 10) tNil)) (tC (.int 1))) (i := 10) (fun c : Nat => D.str (tx [c])) txt (fun c => natD (lt.idxOf c + 1)) (by walk_at "ev") (Nat.le_of_ble_eq_true rfl) (by omega) fun c hc => ev_op (ev_bmT (ev_var rfl) (by walk_at "ev") (rm_index (hin c hc))) ev_int rv_add
    have e : (symsOf lt txt).map natD = txt.map fun c => natD (lt.idxOf c + 1) := by unfold symsOf; rw [List.map_map]; rfl
    rw [e]
    exact Ev.of_own this
  refine sv_seq (sv_setN (evdn_callS (eva_cons (ev_var rfl) (eva_cons hsv (eva_cons (ev_var rfl) eva_nil))) ⟨r, 1 + lt.length, sec, st, symsOf lt txt, most, rfl, ht, by omega, hs0, hst0, syms_lt hin, by rw [hsyl]; omega, by omega, fun m v hres => ⟨_, rfl, _, by walk_at "at", ?_⟩⟩))
  have x0 : atI [D.int m, wD v] (0 : Int) = some (.int m) := rfl
  have x1 : atI [D.int m, wD v] (1 : Int) = some (wD v) := rfl
  have hml : m ≤ most := hres.2.1
  let q : Nat := (other % ((most : Nat) + 1)).toNat
  have hq : other % ((most : Nat) + 1) = (q : Int) := by have := Int.emod_nonneg other (b := (most : Int) + 1) (by omega); omega
  have hql : q ≤ most := by have := Int.emod_lt_of_pos other (b := (most : Int) + 1) (by omega); omega
  refine sv_seq (sv_setO (w := .lst (([most, 0, q, m] : List Nat).map natD)) (evo_eq (evo_lstX (eva_cons (ev_var rfl) (eva_cons ev_int (eva_cons (by walk_at "ev") (eva_cons (ev_op (ev_var rfl) ev_int (rv_ixU x0)) eva_nil)))) (Nat.le_of_ble_eq_true rfl)) (by rw [hq]; rfl)) (by walk_at "at") ?_)
  have rest : ∀ bs : List Nat, bs.length ≤ 5 → (∀ b ∈ bs, b ≤ most) → ∀ P' : Po, (∀ s, R s → P'.rt s) → Sv B W (tSeq (tFor (iList B.K (tVar 7)) (gName 8) (tSeq (tAsg (tCallS (spz B.K (F_play_two B.K)) (WE W) (tCons (tVar 0) (tCons (tVar 3) (tCons (tVar 8) tNil)))) (gName 9))
      (tIfS (tAnd (tTest (tOp zNotN (tOp (zIx B.K) (tVar 6) (tC (.int 1))) (tC .non))) (tTest (tOp zLe (tOp (zIx B.K) (tVar 6) (tC (.int 0))) (tVar 8)))) (tIfS (tNot (tB (tCallS (spz B.K (F__law_same_play B.K)) (WE W) (tCons (tVar 9) (tCons (tOp (zIx B.K) (tVar 6) (tC (.int 0))) (tCons (tOp (zIx B.K) (tVar 6) (tC (.int 1))) tNil)))))) (tRet (tC (.bl false))) tNext) (tIfS (tNot (tB (tCallS (spz B.K (F__law_same_play B.K)) (WE W) (tCons (tVar 9) (tCons (tVar 8) (tCons (tC .non) tNil)))))) (tRet (tC (.bl false))) tNext))))
      (tRet (tC (.bl true)))) [.dat (mcD B.K lt sec r), .dat (rwD r), .dat (.str (tx lt)), .dat (.str (tx txt)), .dat (.int most), .dat (.int other), .dat (.tup [.int m, wD v]), .own (.lst (bs.map natD)), .un, .un, .un] P' := by
    intro bs hbl hb P' hrt
    refine sv_freeze 7 rfl (by walk_at "at") ?_
    refine sv_seq (sv_for natD bs (evi_list (by walk_at "ev")) (fun _ Γ' => ∃ c8 c9 : Sl, Γ' = [.dat (mcD B.K lt sec r), .dat (rwD r), .dat (.str (tx lt)), .dat (.str (tx txt)), .dat (.int most), .dat (.int other), .dat (.tup [.int m, wD v]), .dat (.lst (bs.map natD)), c8, c9, .un]) ⟨_, _, rfl⟩ ?_ ?_)
    · rintro Γ' ⟨c8, c9, rfl⟩
      exact sv_retD (by walk_at "ev") (hrt _ hR)
    · rintro b rr Γ' ⟨pre, hp⟩ ⟨c8, c9, rfl⟩
      refine ⟨_, evg_name (by walk_at "at"), ?_⟩
      have hbm : b ≤ most := hb b (by rw [hp]; simp)
      refine sv_seq (sv_setN (evdn_callS (eva_cons (ev_var rfl) (eva_cons (ev_var rfl) (eva_cons (ev_var rfl) eva_nil))) ⟨lt, txt, r, sec, st, b, rfl, ht, hs0, hst0, hlt, by omega, by omega, fun _ m' v' hres' => ⟨_, rfl, _, by walk_at "at", ?_⟩, fun i e => by rw [bad_none hin] at e; cases e⟩))
      obtain ⟨g1, g2⟩ := res_fn hres hres' hbm
      by_cases hc : v ≠ none ∧ m ≤ b
      · obtain ⟨hv, hmb⟩ := hc
        obtain ⟨b0, rfl⟩ := Option.ne_none_iff_exists'.mp hv
        obtain ⟨rfl, rfl⟩ := g1 b0 rfl hmb
        refine sv_if (p := true) (evt_eq (evt_and (p := true) (evt_test (ev_op (b := .non) (ev_op (ev_var rfl) ev_int (rv_ixU x1)) ev_non rv_notN')) fun _ => evt_test (ev_op (ev_op (ev_var rfl) ev_int (rv_ixU x0)) (ev_var rfl) rv_le)) (by simp only [Bool.true_and]; exact decide_eq_true (by omega))) (fun _ => ?_) fun h => nomatch h
        exact sv_if (p := false) (evt_eq (evt_not (p := true) (evt_b (ev_callS (eva_cons (ev_var rfl) (eva_cons (ev_op (ev_var rfl) ev_int (rv_ixU x0)) (eva_cons (ev_op (ev_var rfl) ev_int (rv_ixU x1)) eva_nil))) ⟨m', some b0, rfl, rfl⟩))) rfl) (fun h => nomatch h) fun _ => sv_next ⟨_, _, rfl⟩
      · obtain ⟨rfl, rfl⟩ := g2 (by
          by_cases hv : v = none
          · exact .inl hv
          · exact .inr (Nat.lt_of_not_le fun h => hc ⟨hv, h⟩))
        have hcond : EvT B (tAnd (tTest (tOp zNotN (tOp (zIx B.K) (tVar 6) (tC (.int 1))) (tC .non))) (tTest (tOp zLe (tOp (zIx B.K) (tVar 6) (tC (.int 0))) (tVar 8)))) [.dat (mcD B.K lt sec r), .dat (rwD r), .dat (.str (tx lt)), .dat (.str (tx txt)), .dat (.int most), .dat (.int other), .dat (.tup [.int m, wD v]), .dat (.lst (bs.map natD)), .dat (natD m'), .dat (.tup [.int m', wD none]), .un] false := by
          refine evt_eq (evt_and (evt_test (ev_op (b := .non) (ev_op (ev_var rfl) ev_int (rv_ixU x1)) ev_non rv_notN')) fun _ => evt_test (ev_op (ev_op (ev_var rfl) ev_int (rv_ixU x0)) (ev_var (d := .int m') rfl) rv_le)) ?_
          cases v with
          | none => rfl
          | some b0 =>
            have : ¬ m ≤ m' := fun h => hc ⟨by simp, h⟩
            show (true && decide ((m : Int) ≤ (m' : Int))) = false
            rw [decide_eq_false (by omega)]; rfl
        refine sv_if hcond (fun h => nomatch h) fun _ => ?_
        exact sv_if (p := false) (evt_eq (evt_not (p := true) (evt_b (ev_callS (eva_cons (ev_var rfl) (eva_cons (ev_var rfl) (eva_cons ev_non eva_nil))) ⟨m', none, rfl, rfl⟩))) rfl) (fun h => nomatch h) fun _ => sv_next ⟨_, _, rfl⟩
  have hb4 : ∀ b ∈ ([most, 0, q, m] : List Nat), b ≤ most := fun b hb => by
    simp only [List.mem_cons, List.not_mem_nil, or_false] at hb
    rcases hb with rfl | rfl | rfl | rfl <;> omega
  refine sv_seq (sv_if (evt_test (ev_op (ev_op (ev_var rfl) ev_int (rv_ixU x0)) ev_int rv_gt)) (fun h => ?_) fun h => ?_)
  · have hm0 : 0 < m := by simpa using h
    refine sv_app (d := natD (m - 1)) rfl (ev_eq (ev_op (ev_op (ev_var rfl) ev_int (rv_ixU x0)) ev_int rv_sub) (congrArg D.int (by omega))) (Nat.le_of_ble_eq_true rfl) (by walk_at "at") ?_
    refine rest [most, 0, q, m, m - 1] (by simp) (fun b hb => ?_) _ fun _ h => h
    simp only [List.mem_cons, List.not_mem_nil, or_false] at hb
    rcases hb with rfl | rfl | rfl | rfl | rfl <;> omega
  · exact sv_next (rest [most, 0, q, m] (by simp) hb4 _ fun _ h => h)
theorem bad_take {lt sp : List Nat} {i c : Nat} (h : sp[i]? = some c) : badIdx lt (sp.take (i + 1)) = (badIdx lt (sp.take i)).or (if c ∈ lt then none else some i) := by
  have hl : i < sp.length := (List.getElem?_eq_some_iff.mp h).1
  unfold badIdx
  rw [List.take_add_one, h]
  simp only [Option.toList_some]
  rw [List.findIdx?_append, List.length_take, Nat.min_eq_left (by omega)]
  congr 1
  by_cases q : c ∈ lt
  · simp [q]
  · simp [q]
def signs : List Nat := [97, 98, 99, 100, 101, 102, 103, 104, 105, 106, 107, 108, 109, 110, 111, 112, 113, 114, 115, 116, 117, 118, 119, 120, 121, 122, 65, 66, 90, 48, 49, 57, 32, 126, 95, 46, 44, 45, 43, 40]
theorem sign_at {x : Int} (h : 0 ≤ x ∧ x < 40) : ∃ c, atI signs x = some c := by
  have hl : x.toNat < signs.length := by show x.toNat < 40; omega
  have := atI_ofNat (List.getElem?_eq_getElem hl)
  rw [Int.toNat_of_nonneg h.1] at this
  exact ⟨_, this⟩
theorem pure__law_refuses_texts {mg : Str → Option Value} {w : World} (B : Bx) (T : Tx w B.K mg) (W : WX) (ds : List D) (R : Sl → Prop) (X : Xc → Prop) (h : F__law_refuses_texts B.K ds R X) : Sv B W (t__law_refuses_texts w B.K W) (ini N__law_refuses_texts ds) { nx := fun _ => R (.dat .non), rt := R, xc := fun x _ => X x } := by
  obtain ⟨lt, txt, r, sec, st, most, d0, d1, d2, d3, rfl, ht, hs0, hst0, hlt, htx, hmost, h0, h1, h2, h3, hR⟩ := h
  show Sv B W (t__law_refuses_texts w B.K W) [.dat (mcD B.K lt sec r), .dat (.str (tx lt)), .dat (.str (tx txt)), .dat (.lst [.int d0, .int d1, .int d2, .int d3]), .dat (.int most), .un, .un, .un, .un, .un, .un, .un, .un] _
  unfold t__law_refuses_texts
  have dg : ∀ j : Nat, j < 2 → ∃ x y : Int, (0 ≤ x ∧ x < 40) ∧ 0 ≤ y ∧ atI [D.int d0, .int d1, .int d2, .int d3] (2 * (j : Nat)) = some (.int x) ∧ atI [D.int d0, .int d1, .int d2, .int d3] (2 * (j : Nat) + 1) = some (.int y) := fun j hj => by
    have : j = 0 ∨ j = 1 := by omega
    rcases this with rfl | rfl
    · exact ⟨d0, d1, h0, h1, rfl, rfl⟩
    · exact ⟨d2, d3, h2, h3, rfl, rfl⟩
  refine sv_seq (sv_set (d := .str (tx signs)) ev_str (by walk_at "at") ?_)
  refine sv_seq (sv_forR (n := 2) (evi_rngN (eva_cons ev_int eva_nil) (by decide)) (fun k Γ' => ∃ c6 c7 c8 c9 c10 c11 c12 : Sl, Γ' = [.dat (mcD B.K lt sec r), .dat (.str (tx lt)), .dat (.str (tx txt)), .dat (.lst [.int d0, .int d1, .int d2, .int d3]), .dat (.int most), .dat (.str (tx signs)), c6, c7, c8, c9, c10, c11, c12]) ⟨_, _, _, _, _, _, _, rfl⟩ ?_ ?_)
  · rintro Γ' ⟨c6, c7, c8, c9, c10, c11, c12, rfl⟩
    exact sv_retD (by walk_at "ev") hR
  rintro k Γ' hk ⟨c6, c7, c8, c9, c10, c11, c12, rfl⟩
  refine ⟨_, evg_name (by walk_at "at"), ?_⟩
  refine sv_seq (sv_set (by walk_at "ev") (by walk_at "at") ?_)
  refine sv_seq (sv_forR (n := k + 1) (evi_rngN (eva_cons (ev_eq (by walk_at "ev") (congrArg D.int (by omega))) eva_nil) (by omega)) (fun j Γ' => ∃ sp : List Nat, sp.length ≤ 1000 + j ∧ ∃ c8 c9 : Sl, Γ' = [.dat (mcD B.K lt sec r), .dat (.str (tx lt)), .dat (.str (tx txt)), .dat (.lst [.int d0, .int d1, .int d2, .int d3]), .dat (.int most), .dat (.str (tx signs)), .dat (.int k), .dat (.str (tx sp)), c8, c9, c10, c11, c12]) ⟨txt, by omega, _, _, rfl⟩ ?_ ?_)
  · rintro Γ' ⟨sp, hsp, c8, c9, rfl⟩
    refine sv_seq (sv_set (d := optN (badIdx lt (sp.take 0))) (by rw [List.take_zero]; exact ev_non) (by walk_at "at") ?_)
    refine sv_seq (sv_forR (n := sp.length) (evi_rngN (by walk_at "ev") (by omega)) (fun i Γ' => ∃ c11 : Sl, Γ' = [.dat (mcD B.K lt sec r), .dat (.str (tx lt)), .dat (.str (tx txt)), .dat (.lst [.int d0, .int d1, .int d2, .int d3]), .dat (.int most), .dat (.str (tx signs)), .dat (.int k), .dat (.str (tx sp)), c8, c9, .dat (optN (badIdx lt (sp.take i))), c11, c12]) ⟨_, rfl⟩ ?_ ?_)
    · rintro Γ' ⟨c11, rfl⟩
      rw [List.take_length]
      refine sv_seq (sv_set (d := optN (badIdx lt sp)) (ev_callS (by walk_at "ev") ⟨lt, sp, r, sec, st, most, rfl, ht, hs0, hst0, hlt, by omega, hmost, rfl⟩) (by walk_at "at") ?_)
      cases badIdx lt sp with
      | none =>
        refine sv_seq (sv_if (p := false) (evt_and (p := true) (q := false) (evt_test (ev_op (b := .non) (ev_var rfl) ev_non rv_isN')) fun _ => evt_test (ev_op (b := .non) (ev_var rfl) ev_non rv_notN')) (fun h => nomatch h) fun _ => sv_next ?_)
        exact sv_if (p := false) (evt_and (p := false) (q := false) (evt_test (ev_op (b := .non) (ev_var rfl) ev_non rv_notN')) fun h => nomatch h) (fun h => nomatch h) fun _ => sv_next ⟨_, _, _, _, _, _, _, rfl⟩
      | some i =>
        refine sv_seq (sv_if (p := false) (evt_and (p := false) (q := false) (evt_test (ev_op (b := .non) (ev_var rfl) ev_non rv_isN')) fun h => nomatch h) (fun h => nomatch h) fun _ => sv_next ?_)
        refine sv_if (p := false) (evt_eq (evt_and (p := true) (evt_test (ev_op (b := .non) (ev_var rfl) ev_non rv_notN')) fun _ => evt_or (p := false) (evt_eq (evt_not (p := true) (evt_b (ev_callS (eva_cons (ev_var rfl) eva_nil) ⟨.int i, rfl, rfl, rfl⟩))) rfl) fun _ => evt_test (ev_op (a := .int i) (b := .int i) (ev_var rfl) (ev_var rfl) rv_neI)) (by rw [decide_eq_true rfl]; rfl)) (fun h => nomatch h) fun _ => sv_next ⟨_, _, _, _, _, _, _, rfl⟩
    · rintro i Γ' hi ⟨c11, rfl⟩
      refine ⟨_, evg_name (by walk_at "at"), ?_⟩
      have hc : sp[i]? = some sp[i] := List.getElem?_eq_getElem hi
      generalize sp[i] = c at hc
      have hat : atI sp ((i : Nat) : Int) = some c := atI_ofNat hc
      have hbt := bad_take (lt := lt) hc
      refine sv_if (evt_and (p := (badIdx lt (sp.take i)).isNone) (evt_eq (evt_test (ev_op (b := .non) (ev_var rfl) ev_non rv_isN')) (by cases badIdx lt (sp.take i) <;> rfl)) fun _ => evt_test (ev_op (ev_op (ev_var rfl) (ev_var rfl) (rv_ixT hat (by omega))) (ev_var rfl) rv_ninT)) (fun h => ?_) fun h => ?_
      · simp only [Bool.and_eq_true, Option.isNone_iff_eq_none, Bool.not_eq_eq_eq_not, Bool.not_true, decide_eq_false_iff_not] at h
        rw [h.1, if_neg h.2] at hbt
        exact sv_set (d := .int i) (ev_var rfl) (by walk_at "at") ⟨.dat (.int i), by rw [hbt]; rfl⟩
      · refine sv_next ⟨.dat (.int i), ?_⟩
        have e : badIdx lt (sp.take (i + 1)) = badIdx lt (sp.take i) := by
          rw [hbt]
          cases hq : badIdx lt (sp.take i) with
          | some j => rfl
          | none =>
            rw [hq] at h
            have : c ∈ lt := by simpa using h
            rw [if_pos this]; rfl
        rw [e]
  · rintro j Γ' hj ⟨sp, hsp, c8, c9, rfl⟩
    refine ⟨_, evg_name (by walk_at "at"), ?_⟩
    obtain ⟨x, y, hx, hy, ax, ay⟩ := dg j (by omega)
    obtain ⟨c, hc⟩ := sign_at hx
    have hpl0 := Int.emod_nonneg y (b := ((sp.length : Nat) : Int) + 1) (by omega)
    have hpl1 := Int.emod_lt_of_pos y (b := ((sp.length : Nat) : Int) + 1) (by omega)
    let p := (y % (((sp.length : Nat) : Int) + 1)).toNat
    have hp : y % (((sp.length : Nat) : Int) + 1) = (p : Int) := by omega
    have hpl : p ≤ sp.length := by omega
    refine sv_seq (sv_set (d := .int p) (ev_eq (ev_op (ev_cb (eva_cons (ev_op (ev_var rfl) (ev_op (ev_op ev_int (ev_var rfl) (rv_mul (cmul_s (by omega) (by omega) (by omega) (by omega)))) ev_int rv_add) (rv_ixL ay)) eva_nil) rc_int) (ev_op (ev_cb (eva_cons (ev_var rfl) eva_nil) (rc_lenT (by omega))) ev_int rv_add) (rv_mod (by omega))) (congrArg D.int hp)) (by walk_at "at") ?_)
    have e1 : cut sp none (some (p : Int)) = sp.take p := cut_take sp p
    have e2 : cut sp (some (p : Int)) none = sp.drop p := cut_drop sp p
    refine sv_set (d := .str (tx (sp.take p ++ [c] ++ sp.drop p))) (ev_op (ev_op (ev_eq (ev_sl (ev_var rfl) evp_none (evp_some (ev_var rfl)) (rs_slT (by omega))) (by rw [e1])) (ev_op (ev_var rfl) (ev_op (ev_var rfl) (ev_op ev_int (ev_var rfl) (rv_mul (cmul_s (by omega) (by omega) (by omega) (by omega)))) (rv_ixL ax)) (rv_ixT hc (by decide))) (rv_addT (by simp; omega))) (ev_eq (ev_sl (ev_var rfl) (evp_some (ev_var rfl)) evp_none (rs_slT (by omega))) (by rw [e2])) (rv_addT (by simp; omega))) (by walk_at "at") ⟨_, by simp; omega, _, _, rfl⟩

end L

namespace L
open PySem PySem.Spec PyProof.Rows L2 Z
local macro_rules | `(tactic| walk_at "at") => `(tactic| first | with_reducible exact SetAt.zero | ((with_reducible apply SetAt.succ); walk_at "at"))
local macro_rules | `(tactic| walk_at "sd") => `(tactic| first | (with_reducible assumption) | omega | (simp only [rep_length, List.length_append, List.length_cons, List.length_nil, List.length_map, List.length_replicate, List.length_range, List.length_take, List.length_reverse] <;> omega) | decide | exact Nat.le_of_ble_eq_true rfl)
local macro_rules | `(tactic| walk_at "cm") => `(tactic| first | (with_reducible assumption) | (refine cmul_s ?_ ?_ ?_ ?_ <;> first | omega | decide))
local macro_rules | `(tactic| walk_at "rv") => `(tactic| first
  | with_reducible exact rv_add | ((with_reducible apply rv_addT); walk_at "sd") | ((with_reducible apply rv_addL); walk_at "sd") | ((with_reducible apply rv_addU); walk_at "sd")
  | with_reducible exact rv_sub | ((with_reducible apply rv_mul); walk_at "cm") | ((with_reducible apply rv_mulT) <;> walk_at "sd")
  | ((with_reducible apply rv_div); first | assumption | exact cdiv_s (by walk_at "sd") (by walk_at "sd")) | ((with_reducible apply rv_mod); walk_at "sd") | ((with_reducible apply rv_pow); exact ⟨by decide, by decide, by decide⟩)
  | with_reducible exact rv_lt | with_reducible exact rv_le | with_reducible exact rv_gt | with_reducible exact rv_ge
  | with_reducible exact rv_eqI | with_reducible exact rv_eqT | with_reducible exact rv_eqB | with_reducible exact rv_neI | with_reducible exact rv_neT | with_reducible exact rv_neB
  | ((with_reducible apply rv_ixL); first | with_reducible assumption | exact rfl) | ((with_reducible apply rv_ixU); first | with_reducible assumption | exact rfl) | ((with_reducible apply rv_ixT); (focus (first | with_reducible assumption | exact rfl)); walk_at "sd")
  | with_reducible exact rv_isN | with_reducible exact rv_isN' | with_reducible exact rv_notN'
  | with_reducible exact rv_inT | with_reducible exact rv_ninT | with_reducible exact rv_inTs | with_reducible exact rv_ninTs | with_reducible assumption)
local macro_rules | `(tactic| walk_at "rc") => `(tactic| first | with_reducible exact rc_int | with_reducible exact rc_intB | with_reducible exact rc_lenL | with_reducible exact rc_lenU | ((with_reducible apply rc_lenT); walk_at "sd") | with_reducible exact rc_min | with_reducible exact rc_tupleL | with_reducible exact rc_tupleU | with_reducible exact rc_listL | with_reducible exact rc_listU | with_reducible exact rc_max | ((with_reducible apply rc_isi); (focus (exact rfl)); first | with_reducible exact kitT | with_reducible exact kit_NoneType_int | with_reducible exact kit_NoneType_bool | with_reducible exact kit_NoneType_str | with_reducible exact kit_NoneType_list | with_reducible exact kit_NoneType_tuple | with_reducible exact kit_bool_int | with_reducible exact kit_bool_bool | with_reducible exact kit_bool_str | with_reducible exact kit_bool_list | with_reducible exact kit_bool_tuple | with_reducible exact kit_int_int | with_reducible exact kit_int_bool | with_reducible exact kit_int_str | with_reducible exact kit_int_list | with_reducible exact kit_int_tuple | with_reducible exact kit_str_int | with_reducible exact kit_str_bool | with_reducible exact kit_str_str | with_reducible exact kit_str_list | with_reducible exact kit_str_tuple | with_reducible exact kit_list_int | with_reducible exact kit_list_bool | with_reducible exact kit_list_str | with_reducible exact kit_list_list | with_reducible exact kit_list_tuple | with_reducible exact kit_tuple_int | with_reducible exact kit_tuple_bool | with_reducible exact kit_tuple_str | with_reducible exact kit_tuple_list | with_reducible exact kit_tuple_tuple | assumption | rfl) | with_reducible assumption)
local macro_rules | `(tactic| walk_at "rs") => `(tactic| first | with_reducible exact rs_slL | with_reducible exact rs_slU | ((with_reducible apply rs_slT); walk_at "sd"))
local macro_rules | `(tactic| walk_at "ru") => `(tactic| first | ((with_reducible apply ru_rev); walk_at "sd") | with_reducible exact ru_neg)
local macro_rules | `(tactic| walk_at "rm") => `(tactic| first | with_reducible exact rm_count | with_reducible assumption)
local macro_rules | `(tactic| walk_at "eo") => `(tactic| first
  | ((with_reducible apply evo_lstX); (focus (walk_at "ev")); exact Nat.le_of_ble_eq_true rfl)
  | ((with_reducible apply evo_callS); (focus (walk_at "ev")); (focus (walk_at "fn")))
  | ((with_reducible apply evo_addL rfl); (focus (walk_at "ev")); (focus (walk_at "ev")); walk_at "sd")
  | ((with_reducible apply evo_listL rfl); walk_at "ev") | ((with_reducible apply evo_listU rfl); walk_at "ev")
  | with_reducible assumption)
local macro_rules | `(tactic| walk_at "ev") => `(tactic| first
  | (with_reducible assumption)
  | ((with_reducible apply ev_var); exact rfl)
  | with_reducible exact ev_int | with_reducible exact ev_str | with_reducible exact ev_bl | with_reducible exact ev_non | with_reducible exact ev_ty | with_reducible exact ev_ref
  | with_reducible exact eva_nil
  | ((with_reducible apply eva_cons); (focus (walk_at "ev")); (focus (walk_at "ev")))
  | ((with_reducible apply ev_op); (focus (walk_at "ev")); (focus (walk_at "ev")); (focus (walk_at "rv")))
  | ((with_reducible apply ev_cb); (focus (walk_at "ev")); (focus (walk_at "rc")))
  | ((with_reducible apply evt_test); (focus (walk_at "ev")))
  | ((with_reducible apply evt_b); (focus (walk_at "ev")))
  | ((with_reducible apply evt_not); (focus (walk_at "ev")))
  | ((with_reducible apply evt_and); (focus (walk_at "ev")); (focus (intro _; walk_at "ev")))
  | ((with_reducible apply evt_or); (focus (walk_at "ev")); (focus (intro _; walk_at "ev")))
  | with_reducible exact evt_yes
  | ((with_reducible apply ev_and); (focus (walk_at "ev")); (focus (intro _; walk_at "ev")))
  | ((with_reducible apply ev_or); (focus (walk_at "ev")); (focus (intro _; walk_at "ev")))
  | ((with_reducible apply ev_not); (focus (walk_at "ev")))
  | ((with_reducible apply ev_callS); (focus (walk_at "ev")); (focus (walk_at "fn")))
  | ((with_reducible apply ev_call); (focus (walk_at "ev")); (focus (walk_at "fn")))
  | ((with_reducible apply ev_tupX); (focus (walk_at "ev")); exact Nat.le_of_ble_eq_true rfl)
  | with_reducible exact evp_none
  | ((with_reducible apply evp_some); (focus (walk_at "ev")))
  | ((with_reducible apply ev_sl); (focus (walk_at "ev")); (focus (walk_at "ev")); (focus (walk_at "ev")); (focus (walk_at "rs")))
  | ((with_reducible apply ev_un); (focus (walk_at "ev")); (focus (walk_at "ru")))
  | ((with_reducible apply ev_bmT); (focus (walk_at "ev")); (focus (walk_at "ev")); (focus (walk_at "rm")))
  | ((with_reducible apply ev_bmT0); (focus (walk_at "ev")); (focus (walk_at "rm")))
  | ((with_reducible apply evi_list); (focus (walk_at "ev")))
  | ((with_reducible apply evi_tup); (focus (walk_at "ev")))
  | ((with_reducible apply evi_str); (focus (walk_at "ev")))
  | ((with_reducible apply evi_rng1); (focus (walk_at "ev")); (focus (constructor <;> walk_at "sd")))
  | ((with_reducible apply evi_rng2); (focus (walk_at "ev")); (focus (constructor <;> walk_at "sd")); (focus (constructor <;> walk_at "sd")))
  | ((with_reducible apply Ev.of_own); walk_at "eo")
  | with_reducible assumption)
local macro_rules | `(tactic| walk_at "st") => `(tactic| repeat (first
  | (with_reducible apply sv_seq)
  | ((with_reducible apply sv_set); (focus (walk_at "ev")); (focus (walk_at "at")))
  | ((with_reducible apply sv_drop); (focus (walk_at "ev")))
  | (with_reducible apply sv_next)))
local macro_rules | `(tactic| walk_at "eq") => `(tactic| (with_reducible apply ev_eq); (focus (walk_at "ev")); rfl)
theorem ne_of {M : Mem} {a b : Addr} {w : Ow} (h : M a = some w) (n : M b = none) : a ≠ b := fun e => by rw [e, n] at h; cases h
theorem pure__law_handed {mg : Str → Option Value} {w : World} (B : Bx) (T : Tx w B.K mg) (W : WX) (ds : List D) (M : Mem) (R : D → Mem → Prop) (X : Xc → Mem → Prop) (h : F__law_handed B.K ds M R X) : Sv B W (t__law_handed w B.K W) (iniM N__law_handed ds M) { nx := fun Γ => ∃ M', Γ[N__law_handed.length - 1]? = some (.mem M') ∧ R .non M', rt := fun _ => False, rm := R, xc := fun x Γ => ∃ M', Γ[N__law_handed.length - 1]? = some (.mem M') ∧ X x M' } := by
  obtain ⟨r, s, rfl, hr, hs, hml, hR⟩ := h
  show Sv B W (t__law_handed w B.K W) [.dat (.lst (rwL r)), .dat (.int s), .un, .un, .un, .un, .un, .un, .mem M] _
  unfold t__law_handed
  let f2 : List D → D := fun os => hvS (decide (s / 2 % 2 = 1)) (os.map (hvO s))
  let f3 : List (List D) → D := fun it => hvS (decide (s / 4 = 1)) (it.map f2)
  have hr6 : r.length ≤ 6 := hr.1
  have P0 : Pt mem0 (fun _ => none) M := ⟨fun a w e => (nomatch e), fun a k e => (nomatch e), hml⟩
  refine sv_seq (sv_setE (eve_lst (m := 8) eva_nil (by decide) rfl fun a ha => ⟨_, SetAt.succ (SetAt.succ SetAt.zero), ?_⟩))
  refine sv_seq (sv_forI (fun it : List (List D) => .lst (it.map .lst)) r (evi_list (ev_var rfl)) (fun i Γ' => ∃ (M : Mem) (N : Mem) (tau : Addr → Option Nat) (ds : List D) (c3 c4 c5 c6 c7 : Sl), Γ' = [.dat (.lst (rwL r)), .dat (.int s), .dat (.ref a), c3, c4, c5, c6, c7, .mem M] ∧ Pt N tau M ∧ M a = some (.lst ds) ∧ N a = none ∧ ds.length = i ∧ Els N tau 3 ds ((r.take i).map f3)) ⟨_, mem0, fun _ => none, [], _, _, _, _, _, rfl, P0.mut rfl, ups_same, rfl, rfl, .nil⟩ ?_ ?_)
  · rintro Γ' ⟨M, N, tau, ds, c3, c4, c5, c6, c7, rfl, P, hM, hN, hl, hE⟩
    refine sv_retM (m := 8) (d := .ref a) rfl (ev_var rfl) (hR a M ?_ ?_)
    · have P2 := P.frz (k := 3) hM hN (by show ds.length ≤ 6; have := hr.1; omega) hE.2
      refine ⟨P.ml, upT tau a 3, fun b k e => ?_, upT_same⟩
      obtain ⟨ds', h1, h2⟩ := P2.ty b k e
      exact ⟨ds', P2.sub _ _ h1, h2⟩
    · rw [List.take_length] at hE
      exact .lst hM (hE.1.mono P.sub)
  · rintro i it Γ' hi ⟨M, N, tau, ds, c3, c4, c5, c6, c7, rfl, P, hM, hN, hl, hE⟩
    refine ⟨_, evg_name (by walk_at "at"), ?_⟩
    obtain ⟨hm1, hm2⟩ := hr.2 it (List.mem_of_getElem? hi)
    have hil : i < r.length := (List.getElem?_eq_some_iff.mp hi).1
    refine sv_seq (sv_setE (eve_lst (m := 8) eva_nil (by decide) rfl fun b hb => ⟨_, SetAt.succ (SetAt.succ (SetAt.succ (SetAt.succ SetAt.zero))), ?_⟩))
    have hab : a ≠ b := ne_of hM hb
    refine sv_seq (sv_forI (fun os : List D => .lst os) it (evi_list (ev_var rfl)) (fun j Γ' => ∃ (M : Mem) (N : Mem) (tau : Addr → Option Nat) (ls : List D) (c5 c6 c7 : Sl), Γ' = [.dat (.lst (rwL r)), .dat (.int s), .dat (.ref a), .dat (.lst (it.map .lst)), .dat (.ref b), c5, c6, c7, .mem M] ∧ Pt N tau M ∧ M a = some (.lst ds) ∧ N a = none ∧ Els N tau 3 ds ((r.take i).map f3) ∧ M b = some (.lst ls) ∧ N b = none ∧ ls.length = j ∧ Els N tau 2 ls ((it.take j).map f2)) ⟨_, N, tau, [], _, _, _, rfl, P.mut (P.nn hb), by rw [ups_ne hab]; exact hM, hN, hE, ups_same, P.nn hb, rfl, .nil⟩ ?_ ?_)
    · rintro Γ' ⟨M, N, tau, ls, c5, c6, c7, rfl, P, hM, hN, hE, hMb, hNb, hlb, hEb⟩
      have e4 : decide (((s : Nat) : Int) / 4 = 1) = decide (s / 4 = 1) := decide_eq_decide.mpr (by omega)
      have f4 : f3 it = hvS (decide (s / 4 = 1)) (it.map f2) := rfl
      rw [List.take_length] at hEb
      have tk : (r.take (i + 1)).map f3 = (r.take i).map f3 ++ [f3 it] := by rw [List.take_add_one, hi, List.map_append]; rfl
      have hb2 : ls.length ≤ cap0 2 := by show ls.length ≤ 6; omega
      refine sv_if (evt_eq (by walk_at "ev") e4) (fun h => ?_) fun h => ?_
      · rw [h] at f4
        refine sv_dropE (eve_mApp (m := 8) (ev_var rfl) rfl hM (eve_of (ev_tupleM (m := 8) rfl (by walk_at "ev") rfl hMb) ⟨M, ds, rfl, hM, by omega, ?_⟩))
        refine ⟨_, N, tau, _, _, _, _, _, _, rfl, P.mut hN, ups_same, hN, by rw [List.length_append, hl]; rfl, ?_⟩
        rw [tk, f4]
        exact hE.snoc (.tupD hEb.1) (.inr ⟨ls, rfl, hb2, hEb.2⟩)
      · rw [h] at f4
        refine sv_dropE (eve_mApp (m := 8) (ev_var rfl) rfl hM (eve_of (ev_var rfl) ⟨M, ds, rfl, hM, by omega, ?_⟩))
        have P2 := P.frz (k := 2) hMb hNb hb2 hEb.2
        have hNa : ups N b (.lst ls) a = none := by rw [ups_ne hab]; exact hN
        refine ⟨_, ups N b (.lst ls), upT tau b 2, _, _, _, _, _, _, rfl, P2.mut hNa, ups_same, hNa, by rw [List.length_append, hl]; rfl, ?_⟩
        rw [tk, f4]
        exact (hE.up hNb (P.ty.tn hNb)).snoc (.lst ups_same (hEb.1.mono (ups_mono hNb))) (.inl ⟨b, rfl, upT_same⟩)
    · rintro j os Γ' hj ⟨M, N, tau, ls, c5, c6, c7, rfl, P, hM, hN, hE, hMb, hNb, hlb, hEb⟩
      refine ⟨_, evg_name (by walk_at "at"), ?_⟩
      obtain ⟨ho1, ho2⟩ := hm2 os (List.mem_of_getElem? hj)
      have hjl : j < it.length := (List.getElem?_eq_some_iff.mp hj).1
      refine sv_seq (sv_setE (eve_lst (m := 8) eva_nil (by decide) rfl fun p hp => ⟨_, SetAt.succ (SetAt.succ (SetAt.succ (SetAt.succ (SetAt.succ (SetAt.succ SetAt.zero))))), ?_⟩))
      have hap : a ≠ p := ne_of hM hp
      have hbp : b ≠ p := ne_of hMb hp
      refine sv_seq (sv_forI (fun x : D => x) os (by rw [List.map_id']; exact evi_list (ev_var rfl)) (fun k Γ' => ∃ (M : Mem) (N : Mem) (tau : Addr → Option Nat) (ps : List D) (c7 : Sl), Γ' = [.dat (.lst (rwL r)), .dat (.int s), .dat (.ref a), .dat (.lst (it.map .lst)), .dat (.ref b), .dat (.lst os), .dat (.ref p), c7, .mem M] ∧ Pt N tau M ∧ M a = some (.lst ds) ∧ N a = none ∧ Els N tau 3 ds ((r.take i).map f3) ∧ M b = some (.lst ls) ∧ N b = none ∧ Els N tau 2 ls ((it.take j).map f2) ∧ M p = some (.lst ps) ∧ N p = none ∧ ps.length = k ∧ Els N tau 1 ps ((os.take k).map (hvO s))) ⟨_, N, tau, [], _, rfl, P.mut (P.nn hp), by rw [ups_ne hap]; exact hM, hN, hE, by rw [ups_ne hbp]; exact hMb, hNb, hEb, ups_same, P.nn hp, rfl, .nil⟩ ?_ ?_)
      · rintro Γ' ⟨M, N, tau, ps, c7, rfl, P, hM, hN, hE, hMb, hNb, hEb, hMp, hNp, hlp, hEp⟩
        have e4 : decide (((s : Nat) : Int) / 2 % 2 = 1) = decide (s / 2 % 2 = 1) := decide_eq_decide.mpr (by omega)
        have f4 : f2 os = hvS (decide (s / 2 % 2 = 1)) (os.map (hvO s)) := rfl
        rw [List.take_length] at hEp
        have tk : (it.take (j + 1)).map f2 = (it.take j).map f2 ++ [f2 os] := by rw [List.take_add_one, hj, List.map_append]; rfl
        have hb1 : ps.length ≤ cap0 1 := by show ps.length ≤ 102; omega
        refine sv_if (evt_eq (by walk_at "ev") e4) (fun h => ?_) fun h => ?_
        · rw [h] at f4
          refine sv_dropE (eve_mApp (m := 8) (ev_var rfl) rfl hMb (eve_of (ev_tupleM (m := 8) rfl (by walk_at "ev") rfl hMp) ⟨M, ls, rfl, hMb, by omega, ?_⟩))
          refine ⟨_, N, tau, _, _, _, _, rfl, P.mut hNb, by rw [ups_ne hab]; exact hM, hN, hE, ups_same, hNb, by rw [List.length_append, hlb]; rfl, ?_⟩
          rw [tk, f4]
          exact hEb.snoc (.tupD hEp.1) (.inr ⟨ps, rfl, hb1, hEp.2⟩)
        · rw [h] at f4
          refine sv_dropE (eve_mApp (m := 8) (ev_var rfl) rfl hMb (eve_of (ev_var rfl) ⟨M, ls, rfl, hMb, by omega, ?_⟩))
          have P2 := P.frz (k := 1) hMp hNp hb1 hEp.2
          have hNa : ups N p (.lst ps) a = none := by rw [ups_ne hap]; exact hN
          have hNb' : ups N p (.lst ps) b = none := by rw [ups_ne hbp]; exact hNb
          have ht := P.ty.tn hNp
          refine ⟨_, ups N p (.lst ps), upT tau p 1, _, _, _, _, rfl, P2.mut hNb', by rw [ups_ne hab]; exact hM, hNa, hE.up hNp ht, ups_same, hNb', by rw [List.length_append, hlb]; rfl, ?_⟩
          rw [tk, f4]
          exact (hEb.up hNp ht).snoc (.lst ups_same (hEp.1.mono (ups_mono hNp))) (.inl ⟨p, rfl, upT_same⟩)
      · rintro k x Γ' hk ⟨M, N, tau, ps, c7, rfl, P, hM, hN, hE, hMb, hNb, hEb, hMp, hNp, hlp, hEp⟩
        refine ⟨_, evg_name (by walk_at "at"), ?_⟩
        have hx := ho2 x (List.mem_of_getElem? hk)
        have hkl : k < os.length := (List.getElem?_eq_some_iff.mp hk).1
        have tk : (os.take (k + 1)).map (hvO s) = (os.take k).map (hvO s) ++ [hvO s x] := by rw [List.take_add_one, hk, List.map_append]; rfl
        have e4 : decide (((s : Nat) : Int) % 2 = 1) = decide (s % 2 = 1) := decide_eq_decide.mpr (by omega)
        -- the option itself
        have same : hvO s x = x → ∀ P' : Po, (∀ Γ', (∃ (M : Mem) (N : Mem) (tau : Addr → Option Nat) (ps : List D) (c7 : Sl), Γ' = [.dat (.lst (rwL r)), .dat (.int s), .dat (.ref a), .dat (.lst (it.map .lst)), .dat (.ref b), .dat (.lst os), .dat (.ref p), c7, .mem M] ∧ Pt N tau M ∧ M a = some (.lst ds) ∧ N a = none ∧ Els N tau 3 ds ((r.take i).map f3) ∧ M b = some (.lst ls) ∧ N b = none ∧ Els N tau 2 ls ((it.take j).map f2) ∧ M p = some (.lst ps) ∧ N p = none ∧ ps.length = k + 1 ∧ Els N tau 1 ps ((os.take (k + 1)).map (hvO s))) → P'.nx Γ') → Sv B W (tDrop (tBM B.K "list" rAppend (tVar 6) (tCons (tVar 7) tNil))) [.dat (.lst (rwL r)), .dat (.int s), .dat (.ref a), .dat (.lst (it.map .lst)), .dat (.ref b), .dat (.lst os), .dat (.ref p), .dat x, .mem M] P' := fun e P' hn => by
          refine sv_dropE (eve_mApp (m := 8) (ev_var rfl) rfl hMp (eve_of (ev_var rfl) ⟨M, ps, rfl, hMp, by omega, ?_⟩))
          refine hn _ ⟨_, N, tau, _, _, rfl, P.mut hNp, by rw [ups_ne hap]; exact hM, hN, hE, by rw [ups_ne hbp]; exact hMb, hNb, hEb, ups_same, hNp, by rw [List.length_append, hlp]; rfl, ?_⟩
          rw [tk, e]
          exact hEp.snoc .rfl (.inr hx)
        rcases hx with hx | ⟨l, rfl, hl5, hlf⟩
        · have e : hvO s x = x := by cases x <;> first | rfl | cases hx
          have ht : EvT B (tB (tCB (zIsi B.K) (tCons (tVar 7) (tCons (tC (.ty "tuple")) tNil)))) [.dat (.lst (rwL r)), .dat (.int s), .dat (.ref a), .dat (.lst (it.map .lst)), .dat (.ref b), .dat (.lst os), .dat (.ref p), .dat x, .mem M] false := by
            cases x <;> first | walk_at "ev" | cases hx
          exact sv_if (p := false) (evt_and (p := false) (q := true) ht fun h => nomatch h) (fun h => nomatch h) fun _ => same e _ fun _ h => h
        · refine sv_if (evt_eq (evt_and (p := true) (by walk_at "ev") fun _ => by walk_at "ev") (show (true && decide (((s : Nat) : Int) % 2 = 1)) = decide (s % 2 = 1) by rw [e4]; rfl)) (fun h => ?_) fun h => ?_
          · have e : hvO s (.tup l) = .lst l := if_pos (of_decide_eq_true h)
            refine sv_dropE (eve_mApp (m := 8) (ev_var rfl) rfl hMp (eve_own (m := 8) (evo_listU rfl (by walk_at "ev")) rfl fun q hq => ⟨ups M q (.lst l), ps, rfl, by rw [ups_ne (ne_of hMp hq)]; exact hMp, by omega, ?_⟩))
            have hNq := P.nn hq
            have haq := ne_of hM hq
            have hbq := ne_of hMb hq
            have hpq := ne_of hMp hq
            have P1 : Pt N tau (ups M q (.lst l)) := P.mut hNq
            have P2 := P1.frz (k := 0) ups_same hNq (by show l.length ≤ 5; exact hl5) (fun d hd => List.all_eq_true.mp hlf d hd)
            have hNp' : ups N q (.lst l) p = none := by rw [ups_ne hpq]; exact hNp
            have ht := P.ty.tn hNq
            refine ⟨_, ups N q (.lst l), upT tau q 0, _, _, rfl, P2.mut hNp', by rw [ups_ne hap, ups_ne haq]; exact hM, by rw [ups_ne haq]; exact hN, hE.up hNq ht, by rw [ups_ne hbp, ups_ne hbq]; exact hMb, by rw [ups_ne hbq]; exact hNb, hEb.up hNq ht, ups_same, hNp', by rw [List.length_append, hlp]; rfl, ?_⟩
            rw [tk, e]
            exact (hEp.up hNq ht).snoc (.lst ups_same (Views.refl l)) (.inl ⟨q, rfl, upT_same⟩)
          · exact same (if_neg (of_decide_eq_false h)) _ fun _ h => h

end L

namespace L
open PySem PySem.Spec PyProof.Rows L2 Z
local macro_rules | `(tactic| walk_at "at") => `(tactic| first | with_reducible exact SetAt.zero | ((with_reducible apply SetAt.succ); walk_at "at"))
local macro_rules | `(tactic| walk_at "sd") => `(tactic| first | (with_reducible assumption) | omega | (simp only [rep_length, List.length_append, List.length_cons, List.length_nil, List.length_map, List.length_replicate, List.length_range, List.length_take, List.length_reverse] <;> omega) | decide | exact Nat.le_of_ble_eq_true rfl)
local macro_rules | `(tactic| walk_at "cm") => `(tactic| first | (with_reducible assumption) | (refine cmul_s ?_ ?_ ?_ ?_ <;> first | omega | decide))
local macro_rules | `(tactic| walk_at "rv") => `(tactic| first
  | with_reducible exact rv_add | ((with_reducible apply rv_addT); walk_at "sd") | ((with_reducible apply rv_addL); walk_at "sd") | ((with_reducible apply rv_addU); walk_at "sd")
  | with_reducible exact rv_sub | ((with_reducible apply rv_mul); walk_at "cm") | ((with_reducible apply rv_mulT) <;> walk_at "sd")
  | ((with_reducible apply rv_div); first | assumption | exact cdiv_s (by walk_at "sd") (by walk_at "sd")) | ((with_reducible apply rv_mod); walk_at "sd") | ((with_reducible apply rv_pow); exact ⟨by decide, by decide, by decide⟩)
  | with_reducible exact rv_lt | with_reducible exact rv_le | with_reducible exact rv_gt | with_reducible exact rv_ge
  | with_reducible exact rv_eqI | with_reducible exact rv_eqT | with_reducible exact rv_eqB | with_reducible exact rv_neI | with_reducible exact rv_neT | with_reducible exact rv_neB
  | ((with_reducible apply rv_ixL); first | with_reducible assumption | exact rfl) | ((with_reducible apply rv_ixU); first | with_reducible assumption | exact rfl) | ((with_reducible apply rv_ixT); (focus (first | with_reducible assumption | exact rfl)); walk_at "sd")
  | with_reducible exact rv_isN | with_reducible exact rv_isN' | with_reducible exact rv_notN'
  | with_reducible exact rv_inT | with_reducible exact rv_ninT | with_reducible exact rv_inTs | with_reducible exact rv_ninTs | with_reducible assumption)
local macro_rules | `(tactic| walk_at "rc") => `(tactic| first | with_reducible exact rc_int | with_reducible exact rc_intB | with_reducible exact rc_lenL | with_reducible exact rc_lenU | ((with_reducible apply rc_lenT); walk_at "sd") | with_reducible exact rc_min | with_reducible exact rc_tupleL | with_reducible exact rc_tupleU | with_reducible exact rc_listL | with_reducible exact rc_listU | with_reducible exact rc_max | ((with_reducible apply rc_isi); (focus (exact rfl)); first | with_reducible exact kitT | with_reducible exact kit_NoneType_int | with_reducible exact kit_NoneType_bool | with_reducible exact kit_NoneType_str | with_reducible exact kit_NoneType_list | with_reducible exact kit_NoneType_tuple | with_reducible exact kit_bool_int | with_reducible exact kit_bool_bool | with_reducible exact kit_bool_str | with_reducible exact kit_bool_list | with_reducible exact kit_bool_tuple | with_reducible exact kit_int_int | with_reducible exact kit_int_bool | with_reducible exact kit_int_str | with_reducible exact kit_int_list | with_reducible exact kit_int_tuple | with_reducible exact kit_str_int | with_reducible exact kit_str_bool | with_reducible exact kit_str_str | with_reducible exact kit_str_list | with_reducible exact kit_str_tuple | with_reducible exact kit_list_int | with_reducible exact kit_list_bool | with_reducible exact kit_list_str | with_reducible exact kit_list_list | with_reducible exact kit_list_tuple | with_reducible exact kit_tuple_int | with_reducible exact kit_tuple_bool | with_reducible exact kit_tuple_str | with_reducible exact kit_tuple_list | with_reducible exact kit_tuple_tuple | assumption | rfl) | with_reducible assumption)
local macro_rules | `(tactic| walk_at "rs") => `(tactic| first | with_reducible exact rs_slL | with_reducible exact rs_slU | ((with_reducible apply rs_slT); walk_at "sd"))
local macro_rules | `(tactic| walk_at "ru") => `(tactic| first | ((with_reducible apply ru_rev); walk_at "sd") | with_reducible exact ru_neg)
local macro_rules | `(tactic| walk_at "rm") => `(tactic| first | with_reducible exact rm_count | with_reducible assumption)
local macro_rules | `(tactic| walk_at "eo") => `(tactic| first
  | ((with_reducible apply evo_lstX); (focus (walk_at "ev")); exact Nat.le_of_ble_eq_true rfl)
  | ((with_reducible apply evo_callS); (focus (walk_at "ev")); (focus (walk_at "fn")))
  | ((with_reducible apply evo_addL rfl); (focus (walk_at "ev")); (focus (walk_at "ev")); walk_at "sd")
  | ((with_reducible apply evo_listL rfl); walk_at "ev") | ((with_reducible apply evo_listU rfl); walk_at "ev")
  | with_reducible assumption)
local macro_rules | `(tactic| walk_at "ev") => `(tactic| first
  | (with_reducible assumption)
  | ((with_reducible apply ev_var); exact rfl)
  | with_reducible exact ev_int | with_reducible exact ev_str | with_reducible exact ev_bl | with_reducible exact ev_non | with_reducible exact ev_ty | with_reducible exact ev_ref
  | with_reducible exact eva_nil
  | ((with_reducible apply eva_cons); (focus (walk_at "ev")); (focus (walk_at "ev")))
  | ((with_reducible apply ev_op); (focus (walk_at "ev")); (focus (walk_at "ev")); (focus (walk_at "rv")))
  | ((with_reducible apply ev_cb); (focus (walk_at "ev")); (focus (walk_at "rc")))
  | ((with_reducible apply evt_test); (focus (walk_at "ev")))
  | ((with_reducible apply evt_b); (focus (walk_at "ev")))
  | ((with_reducible apply evt_not); (focus (walk_at "ev")))
  | ((with_reducible apply evt_and); (focus (walk_at "ev")); (focus (intro _; walk_at "ev")))
  | ((with_reducible apply evt_or); (focus (walk_at "ev")); (focus (intro _; walk_at "ev")))
  | with_reducible exact evt_yes
  | ((with_reducible apply ev_and); (focus (walk_at "ev")); (focus (intro _; walk_at "ev")))
  | ((with_reducible apply ev_or); (focus (walk_at "ev")); (focus (intro _; walk_at "ev")))
  | ((with_reducible apply ev_not); (focus (walk_at "ev")))
  | ((with_reducible apply ev_callS); (focus (walk_at "ev")); (focus (walk_at "fn")))
  | ((with_reducible apply ev_call); (focus (walk_at "ev")); (focus (walk_at "fn")))
  | ((with_reducible apply ev_tupX); (focus (walk_at "ev")); exact Nat.le_of_ble_eq_true rfl)
  | with_reducible exact evp_none
  | ((with_reducible apply evp_some); (focus (walk_at "ev")))
  | ((with_reducible apply ev_sl); (focus (walk_at "ev")); (focus (walk_at "ev")); (focus (walk_at "ev")); (focus (walk_at "rs")))
  | ((with_reducible apply ev_un); (focus (walk_at "ev")); (focus (walk_at "ru")))
  | ((with_reducible apply ev_bmT); (focus (walk_at "ev")); (focus (walk_at "ev")); (focus (walk_at "rm")))
  | ((with_reducible apply ev_bmT0); (focus (walk_at "ev")); (focus (walk_at "rm")))
  | ((with_reducible apply evi_list); (focus (walk_at "ev")))
  | ((with_reducible apply evi_tup); (focus (walk_at "ev")))
  | ((with_reducible apply evi_str); (focus (walk_at "ev")))
  | ((with_reducible apply evi_rng1); (focus (walk_at "ev")); (focus (constructor <;> walk_at "sd")))
  | ((with_reducible apply evi_rng2); (focus (walk_at "ev")); (focus (constructor <;> walk_at "sd")); (focus (constructor <;> walk_at "sd")))
  | ((with_reducible apply Ev.of_own); walk_at "eo")
  | with_reducible assumption)
local macro_rules | `(tactic| walk_at "st") => `(tactic| repeat (first
  | (with_reducible apply sv_seq)
  | ((with_reducible apply sv_set); (focus (walk_at "ev")); (focus (walk_at "at")))
  | ((with_reducible apply sv_drop); (focus (walk_at "ev")))
  | (with_reducible apply sv_next)))
local macro_rules | `(tactic| walk_at "eq") => `(tactic| (with_reducible apply ev_eq); (focus (walk_at "ev")); rfl)
abbrev RS (i j k : Nat) (tau : Addr → Option Nat) (M : Mem) : Prop := MLst M ∧ Typed tau (capR i j k) M
theorem ups_keep {tau : Addr → Option Nat} {M : Mem} {q b : Addr} {w : Ow} {k l j : Nat} (hq : tau q = some k) (hb : tau b = some l) (hk : k < j) (hl : j ≤ l) : ups M q w b = M b := by
  rw [ups_ne]
  rintro rfl
  rw [hq] at hb; cases hb
  omega
theorem notL {B : Bx} {d : D} (h : OptOk d) : RC B (zIsi B.K) [d, .ty "list"] (.bl false) := by
  rcases h with h | ⟨l, rfl, _⟩
  · cases d with
    | non => exact rc_isi rfl kit_NoneType_list
    | bl => exact rc_isi rfl kit_bool_list
    | int => exact rc_isi rfl kit_int_list
    | str => exact rc_isi rfl kit_str_list
    | _ => cases h
  · exact rc_isi rfl kit_tuple_list
theorem pure__law_ruin {mg : Str → Option Value} {w : World} (B : Bx) (T : Tx w B.K mg) (W : WX) (ds : List D) (M : Mem) (R : D → Mem → Prop) (X : Xc → Mem → Prop) (h : F__law_ruin B.K ds M R X) : Sv B W (t__law_ruin w B.K W) (iniM N__law_ruin ds M) { nx := fun Γ => ∃ M', Γ[N__law_ruin.length - 1]? = some (.mem M') ∧ R .non M', rt := fun _ => False, rm := R, xc := fun x Γ => ∃ M', Γ[N__law_ruin.length - 1]? = some (.mem M') ∧ X x M' } := by
  obtain ⟨a, rfl, ⟨hml, tau0, hT0, ha0⟩, hR⟩ := h
  show Sv B W (t__law_ruin w B.K W) [.dat (.ref a), .un, .un, .un, .mem M] _
  unfold t__law_ruin
  -- one option
  have body3 : ∀ (i j k : Nat) (tau : Addr → Option Nat) (M : Mem) (c0 c1 c2 : Sl) (x : D) (P' : Po), i ≤ 10 → j ≤ 20 → k ≤ 300 → RS i j k tau M → Elt tau (capR i j k) 1 x → (∀ M', RS i j (k + 1) tau M' → (∀ b l, tau b = some l → 1 ≤ l → M' b = M b) → P'.nx [c0, c1, c2, .dat x, .mem M']) →
      Sv B W (tIfS (tB (tCB (zIsi B.K) (tCons (tVar 3) (tCons (tC (.ty "list")) tNil)))) (tSeq (tDrop (tBM B.K "list" rAppend (tVar 3) (tCons (tC (.int 7)) tNil))) (tAsg (tC (.int 5)) (gSub (tVar 3) (tC (.int 0)) zSet))) tNext) [c0, c1, c2, .dat x, .mem M] P' := by
    intro i j k tau M c0 c1 c2 x P' hi hj hk hS hx hn
    have hc : ∀ n, capR i j k n ≤ capR i j (k + 1) n := capR_le (by omega) (by omega) (by omega)
    rcases hx with ⟨q, rfl, hq⟩ | hx
    · obtain ⟨l, hl, hlen, hel⟩ := hS.2 q 0 hq
      have hlen : l.length ≤ 5 + 6000 * i + 300 * j + k := hlen
      refine sv_if (p := true) (evt_isiM (n := 3) (m := 4) rfl rfl hl kit_list_list) (fun _ => ?_) fun h => nomatch h
      refine sv_seq (sv_dropE (eve_mApp (m := 4) (ev_var rfl) rfl hl (eve_of ev_int ⟨M, l, rfl, hl, by omega, ?_⟩)))
      refine sv_mStL (m := 4) (eve_of ev_int ⟨_, l ++ [.int 7], q, 0, 0, rfl, ups_same, ev_var rfl, ev_int, ixN_of (n := (l ++ [D.int 7]).length) (by omega) (by simp), ?_⟩)
      refine hn _ ⟨hS.1.up.up, ?_⟩ (fun b m hb hm => ?_)
      · rw [ups_ups]
        refine hS.2.set hc hq ?_ fun d hd => ?_
        · rw [List.length_set, List.length_append, List.length_singleton]; show l.length + 1 ≤ 5 + 6000 * i + 300 * j + (k + 1); omega
        · rcases mem_set0 hd with rfl | hd
          · rfl
          · rcases List.mem_append.mp hd with hd | hd
            · exact hel d hd
            · rw [List.mem_singleton] at hd; subst hd; rfl
      · rw [ups_ups]; exact ups_keep (j := 1) hq hb (by decide) hm
    · exact sv_if (p := false) (evt_b (ev_cb (by walk_at "ev") (notL hx))) (fun h => nomatch h) fun _ => sv_next (hn M ⟨hS.1, hS.2.mono hc⟩ fun _ _ _ _ => rfl)
  -- the options of a pair
  have body2 : ∀ (i j : Nat) (tau : Addr → Option Nat) (M : Mem) (c0 c1 c3 : Sl) (y : D) (P' : Po), i ≤ 6 → j ≤ 12 → RS i j 0 tau M → Elt tau (capR i j 0) 2 y → (∀ M' c3', RS i (j + 1) 0 tau M' → (∀ b l, tau b = some l → 2 ≤ l → M' b = M b) → P'.nx [c0, c1, .dat y, c3', .mem M']) →
      Sv B W (tSeq (tFor (iSeq B.K (tVar 2)) (gName 3) (tIfS (tB (tCB (zIsi B.K) (tCons (tVar 3) (tCons (tC (.ty "list")) tNil)))) (tSeq (tDrop (tBM B.K "list" rAppend (tVar 3) (tCons (tC (.int 7)) tNil))) (tAsg (tC (.int 5)) (gSub (tVar 3) (tC (.int 0)) zSet))) tNext))
        (tIfS (tB (tCB (zIsi B.K) (tCons (tVar 2) (tCons (tC (.ty "list")) tNil)))) (tSeq (tDrop (tBM B.K "list" rAppend (tVar 2) (tCons (tC (.bl true)) tNil))) (tAsg (tC (.bl false)) (gSub (tVar 2) (tC (.int 0)) zSet))) tNext)) [c0, c1, .dat y, c3, .mem M] P' := by
    intro i j tau M c0 c1 c3 y P' hi hj hS hy hn
    have hcj : ∀ k, k ≤ 300 → ∀ n, capR i j k n ≤ capR i (j + 1) 0 n := fun k hk => capR_le (by omega) (by omega) (by omega)
    rcases hy with ⟨p, rfl, hp⟩ | ⟨l, rfl, hl, hel⟩
    · obtain ⟨ps, hps, hlen, hel⟩ := hS.2 p 1 hp
      have hlen : ps.length ≤ 102 + 20 * i + j := hlen
      refine sv_seq (sv_forF (m := 4) (ds := ps) (iSeq B.K (tVar 2)) (.inr rfl) (ev_var rfl) (fun rem Γ' => ∃ (M' : Mem) (c3 : Sl) (k : Nat), k + rem.length = ps.length ∧ RS i j k tau M' ∧ (∀ b l, tau b = some l → 1 ≤ l → M' b = M b) ∧ Γ' = [c0, c1, .dat (.ref p), c3, .mem M']) ⟨M, _, 0, by omega, hS, fun _ _ _ _ => rfl, rfl⟩ ?_ ?_ ?_)
      · rintro rem Γ' ⟨M', c3, k, hk, hS', hkp, rfl⟩
        exact ⟨M', rfl, by rw [hkp p 1 hp (by omega)]; exact hps⟩
      · rintro Γ' ⟨M', c3, k, hk, hS', hkp, rfl⟩
        have hk : k = ps.length := hk
        have hM' : M' p = some (.lst ps) := by rw [hkp p 1 hp (by omega)]; exact hps
        refine sv_if (p := true) (evt_isiM (n := 2) (m := 4) rfl rfl hM' kit_list_list) (fun _ => ?_) fun h => nomatch h
        refine sv_seq (sv_dropE (eve_mApp (m := 4) (ev_var rfl) rfl hM' (eve_of ev_bl ⟨M', ps, rfl, hM', by omega, ?_⟩)))
        refine sv_mStL (m := 4) (eve_of ev_bl ⟨_, ps ++ [.bl true], p, 0, 0, rfl, ups_same, ev_var rfl, ev_int, ixN_of (n := (ps ++ [D.bl true]).length) (by omega) (by simp), ?_⟩)
        refine hn _ _ ⟨hS'.1.up.up, ?_⟩ (fun b m hb hm => ?_)
        · rw [ups_ups]
          refine hS'.2.set (hcj k (by omega)) hp ?_ fun d hd => ?_
          · rw [List.length_set, List.length_append, List.length_singleton]; show ps.length + 1 ≤ 102 + 20 * i + (j + 1); omega
          · rcases mem_set0 hd with rfl | hd
            · exact .inr (.inl rfl)
            · rcases List.mem_append.mp hd with hd | hd
              · exact Elt.mono (fun _ _ x => x) (hcj 0 (by omega)) 1 d (hel d hd)
              · rw [List.mem_singleton] at hd; subst hd; exact .inr (.inl rfl)
        · rw [ups_ups, ups_keep (j := 2) hp hb (by decide) hm]; exact hkp b m hb (Nat.le_trans (by decide) hm)
      · rintro x rem Γ' ⟨pre, hpre⟩ ⟨M', c3, k, hk, hS', hkp, rfl⟩
        refine ⟨_, evg_name (by walk_at "at"), ?_⟩
        have hk : k + (rem.length + 1) = ps.length := hk
        refine body3 i j k tau M' _ _ _ x _ (by omega) (by omega) (by omega) hS' (Elt.mono (fun _ _ x => x) (capR_le (by omega) (by omega) (by omega)) 1 x (hel x (by rw [hpre]; simp))) fun M2 hS2 hk2 => ⟨M2, _, k + 1, by omega, hS2, fun b l hb hl => by rw [hk2 b l hb hl]; exact hkp b l hb hl, rfl⟩
    · have hl : l.length ≤ 102 + 20 * i + j := hl
      refine sv_seq (sv_forI (fun x : D => x) l (by rw [List.map_id']; exact evi_seqU (ev_var rfl)) (fun k Γ' => ∃ (M' : Mem) (c3 : Sl), RS i j k tau M' ∧ (∀ b l, tau b = some l → 1 ≤ l → M' b = M b) ∧ Γ' = [c0, c1, .dat (.tup l), c3, .mem M']) ⟨M, _, hS, fun _ _ _ _ => rfl, rfl⟩ ?_ ?_)
      · rintro Γ' ⟨M', c3, hS', hkp, rfl⟩
        exact sv_if (p := false) (evt_b (by walk_at "ev")) (fun h => nomatch h) fun _ => sv_next (hn M' _ ⟨hS'.1, hS'.2.mono (hcj _ (by omega))⟩ fun b m hb hm => hkp b m hb (by omega))
      · rintro k x Γ' hx ⟨M', c3, hS', hkp, rfl⟩
        refine ⟨_, evg_name (by walk_at "at"), ?_⟩
        have hkl : k < l.length := (List.getElem?_eq_some_iff.mp hx).1
        exact body3 i j k tau M' _ _ _ x _ (by omega) (by omega) (by omega) hS' (Elt.mono (fun _ _ x => x) (capR_le (by omega) (by omega) (by omega)) 1 x (hel x (List.mem_of_getElem? hx))) fun M2 hS2 hk2 => ⟨M2, _, hS2, fun b l hb hl => by rw [hk2 b l hb hl]; exact hkp b l hb hl, rfl⟩
  -- the rows
  obtain ⟨hs, hhs, hhl, hhe⟩ := hT0 a 3 ha0
  have hhl : hs.length ≤ 6 := hhl
  have hT0 : RS 0 0 0 tau0 M := ⟨hml, hT0.mono fun n => by
    match n with
    | 0 => exact Nat.le_refl _
    | 1 => exact Nat.le_refl _
    | n + 2 => show 6 ≤ capR 0 0 0 (n + 2); cases n <;> exact Nat.le_refl _⟩
  refine sv_seq (sv_forF (m := 4) (ds := hs) (iList B.K (tVar 0)) (.inl rfl) (ev_var rfl) (fun rem Γ' => ∃ (M' : Mem) (tau : Addr → Option Nat) (c1 c2 c3 : Sl) (i : Nat), i + rem.length = hs.length ∧ RS i 0 0 tau M' ∧ (∀ b l, tau0 b = some l → tau b = some l) ∧ M' a = some (.lst hs) ∧ Γ' = [.dat (.ref a), c1, c2, c3, .mem M']) ⟨M, tau0, _, _, _, 0, by omega, hT0, fun _ _ h => h, hhs, rfl⟩ ?_ ?_ ?_)
  · rintro rem Γ' ⟨M', tau, c1, c2, c3, i, hi, hS', ht, hMa, rfl⟩
    exact ⟨M', rfl, hMa⟩
  · rintro Γ' ⟨M', tau, c1, c2, c3, i, hi, hS', ht, hMa, rfl⟩
    refine sv_seq (sv_dropE (eve_mApp (m := 4) (ev_var rfl) rfl hMa (eve_lst (m := 4) eva_nil (by decide) rfl fun z hz => ⟨_, hs, rfl, by rw [ups_ne (ne_of hMa hz)]; exact hMa, by omega, ?_⟩)))
    refine sv_mStL (m := 4) (eve_lst (m := 4) eva_nil (by decide) rfl fun z2 hz2 => ⟨_, hs ++ [.ref z], a, 0, 0, rfl, by rw [ups_ne (ne_of ups_same hz2)]; exact ups_same, ev_var rfl, ev_int, ixN_of (n := (hs ++ [D.ref z]).length) (by omega) (by simp), ?_⟩)
    exact ⟨_, rfl, hR _ hS'.1.up.up.up.up⟩
  · rintro y rem Γ' ⟨pre, hpre⟩ ⟨M', tau, c1, c2, c3, i, hi, hS', ht, hMa, rfl⟩
    refine ⟨_, evg_name (by walk_at "at"), ?_⟩
    have hi : i + (rem.length + 1) = hs.length := hi
    have hye : Elt tau (capR i 0 0) 3 y := Elt.mono ht (fun n => by
      match n with
      | 0 => show 5 ≤ 5 + 6000 * i + 300 * 0 + 0; omega
      | 1 => show 102 ≤ 102 + 20 * i + 0; omega
      | 2 => show 6 ≤ 6 + i; omega
      | n + 3 => exact Nat.le_refl _) 3 y (hhe y (by rw [hpre]; simp))
    have hci : ∀ j, j ≤ 20 → ∀ n, capR i j 0 n ≤ capR (i + 1) 0 0 n := fun j hj => capR_le (by omega) (by omega) (by omega)
    have hta := ht a 3 ha0
    rcases hye with ⟨b, rfl, hb⟩ | ⟨l, rfl, hl, hel⟩
    · obtain ⟨ls, hls, hlen, hel⟩ := hS'.2 b 2 hb
      have hlen : ls.length ≤ 6 + i := hlen
      refine sv_seq (sv_forF (m := 4) (ds := ls) (iSeq B.K (tVar 1)) (.inr rfl) (ev_var rfl) (fun rem Γ' => ∃ (M2 : Mem) (c2 c3 : Sl) (j : Nat), j + rem.length = ls.length ∧ RS i j 0 tau M2 ∧ (∀ b l, tau b = some l → 2 ≤ l → M2 b = M' b) ∧ Γ' = [.dat (.ref a), .dat (.ref b), c2, c3, .mem M2]) ⟨M', _, _, 0, by omega, hS', fun _ _ _ _ => rfl, rfl⟩ ?_ ?_ ?_)
      · rintro rem Γ' ⟨M2, c2, c3, j, hj, hS2, hkp, rfl⟩
        exact ⟨M2, rfl, by rw [hkp b 2 hb (by omega)]; exact hls⟩
      · rintro Γ' ⟨M2, c2, c3, j, hj, hS2, hkp, rfl⟩
        have hj : j = ls.length := hj
        have hMb : M2 b = some (.lst ls) := by rw [hkp b 2 hb (by omega)]; exact hls
        have hMa2 : M2 a = some (.lst hs) := by rw [hkp a 3 hta (by omega)]; exact hMa
        refine sv_if (p := true) (evt_isiM (n := 1) (m := 4) rfl rfl hMb kit_list_list) (fun _ => ?_) fun h => nomatch h
        refine sv_seq (sv_dropE (eve_mApp (m := 4) (ev_var rfl) rfl hMb (eve_lst (m := 4) eva_nil (by decide) rfl fun z hz => ⟨_, ls, rfl, by rw [ups_ne (ne_of hMb hz)]; exact hMb, by omega, ?_⟩)))
        refine sv_mStL (m := 4) (eve_lst (m := 4) (eva_cons ev_bl eva_nil) (by decide) rfl fun z2 hz2 => ⟨_, ls ++ [.ref z], b, 0, 0, rfl, by rw [ups_ne (ne_of ups_same hz2)]; exact ups_same, ev_var rfl, ev_int, ixN_of (n := (ls ++ [D.ref z]).length) (by omega) (by simp), ?_⟩)
        have htz : tau z = none := hS2.2.tn hz
        have hba : b ≠ a := fun e => by subst e; rw [hb] at hta; cases hta
        have T1 : Typed (upT tau z 1) (capR i j 0) (ups M2 z (.lst [])) := hS2.2.up hz (by show 0 ≤ _; omega) fun _ h => nomatch h
        have hb1 : upT tau z 1 b = some 2 := upT_mono htz b 2 hb
        have T2 : Typed (upT tau z 1) (capR (i + 1) 0 0) (ups (ups M2 z (.lst [])) b (.lst (ls ++ [.ref z]))) := T1.set (hci j (by omega)) hb1 (by rw [List.length_append, List.length_singleton]; show ls.length + 1 ≤ 6 + (i + 1); omega) fun d hd => by
          rcases List.mem_append.mp hd with hd | hd
          · exact Elt.mono (upT_mono htz) (fun n => Nat.le_trans (capR_le (by omega) (by omega) (by omega) n) (hci 0 (by omega) n)) 2 d (hel d hd)
          · rw [List.mem_singleton] at hd; subst hd; exact .inl ⟨z, rfl, upT_same⟩
        have htz2 : upT tau z 1 z2 = none := T2.tn hz2
        have T3 : Typed (upT (upT tau z 1) z2 1) (capR (i + 1) 0 0) (ups (ups (ups M2 z (.lst [])) b (.lst (ls ++ [.ref z]))) z2 (.lst [.bl true])) := T2.up hz2 (by show 1 ≤ 102 + 20 * (i + 1) + 0; omega) fun d hd => by
          rw [List.mem_singleton] at hd; subst hd; exact .inr (.inl rfl)
        have T4 := T3.set (q := b) (k := 2) (l := (ls ++ [D.ref z]).set 0 (D.ref z2)) (fun n => Nat.le_refl _) (upT_mono htz2 b 2 hb1) (by rw [List.length_set, List.length_append, List.length_singleton]; show ls.length + 1 ≤ 6 + (i + 1); omega) fun d hd => by
          rcases mem_set0 hd with rfl | hd
          · exact .inl ⟨z2, rfl, upT_same⟩
          · rcases List.mem_append.mp hd with hd | hd
            · exact Elt.mono (fun b l h => upT_mono htz2 b l (upT_mono htz b l h)) (fun n => Nat.le_trans (capR_le (by omega) (by omega) (by omega) n) (hci 0 (by omega) n)) 2 d (hel d hd)
            · rw [List.mem_singleton] at hd; subst hd; exact .inl ⟨z, rfl, upT_mono htz2 z 1 upT_same⟩
        refine ⟨_, upT (upT tau z 1) z2 1, _, _, _, i + 1, by omega, ⟨hS2.1.up.up.up.up, T4⟩, fun b l h => upT_mono htz2 b l (upT_mono htz b l (ht b l h)), ?_, rfl⟩
        rw [ups_ne (Ne.symm hba), ups_ne, ups_ne (Ne.symm hba), ups_ne (ne_of hMa2 hz)]
        · exact hMa2
        · rintro rfl
          rw [ups_ne (Ne.symm hba), ups_ne (ne_of hMa2 hz), hMa2] at hz2
          cases hz2
      · rintro x rem' Γ' ⟨pre', hpre'⟩ ⟨M2, c2, c3, j, hj, hS2, hkp, rfl⟩
        refine ⟨_, evg_name (by walk_at "at"), ?_⟩
        have hj : j + (rem'.length + 1) = ls.length := hj
        exact body2 i j tau M2 _ _ _ x _ (by omega) (by omega) hS2 (Elt.mono (fun _ _ x => x) (capR_le (by omega) (by omega) (by omega)) 2 x (hel x (by rw [hpre']; simp))) fun M3 c3' hS3 hk3 => ⟨M3, _, _, j + 1, by omega, hS3, fun b l hb hl => by rw [hk3 b l hb hl]; exact hkp b l hb hl, rfl⟩
    · have hl : l.length ≤ 6 + i := hl
      refine sv_seq (sv_forI (fun x : D => x) l (by rw [List.map_id']; exact evi_seqU (ev_var rfl)) (fun j Γ' => ∃ (M2 : Mem) (c2 c3 : Sl), RS i j 0 tau M2 ∧ (∀ b l, tau b = some l → 2 ≤ l → M2 b = M' b) ∧ Γ' = [.dat (.ref a), .dat (.tup l), c2, c3, .mem M2]) ⟨M', _, _, hS', fun _ _ _ _ => rfl, rfl⟩ ?_ ?_)
      · rintro Γ' ⟨M2, c2, c3, hS2, hkp, rfl⟩
        exact sv_if (p := false) (evt_b (by walk_at "ev")) (fun h => nomatch h) fun _ => sv_next ⟨M2, tau, _, _, _, i + 1, by omega, ⟨hS2.1, hS2.2.mono (hci _ (by omega))⟩, ht, by rw [hkp a 3 hta (by omega)]; exact hMa, rfl⟩
      · rintro j x Γ' hx ⟨M2, c2, c3, hS2, hkp, rfl⟩
        refine ⟨_, evg_name (by walk_at "at"), ?_⟩
        have hjl : j < l.length := (List.getElem?_eq_some_iff.mp hx).1
        exact body2 i j tau M2 _ _ _ x _ (by omega) (by omega) hS2 (Elt.mono (fun _ _ x => x) (capR_le (by omega) (by omega) (by omega)) 2 x (hel x (List.mem_of_getElem? hx))) fun M3 c3' hS3 hk3 => ⟨M3, _, _, hS3, fun b l hb hl => by rw [hk3 b l hb hl]; exact hkp b l hb hl, rfl⟩

end L

namespace L
open PySem PySem.Spec PyProof.Rows L2 Z
local macro_rules | `(tactic| walk_at "at") => `(tactic| first | with_reducible exact SetAt.zero | ((with_reducible apply SetAt.succ); walk_at "at"))
local macro_rules | `(tactic| walk_at "sd") => `(tactic| first | (with_reducible assumption) | omega | (simp only [rep_length, List.length_append, List.length_cons, List.length_nil, List.length_map, List.length_replicate, List.length_range, List.length_take, List.length_reverse] <;> omega) | decide | exact Nat.le_of_ble_eq_true rfl)
local macro_rules | `(tactic| walk_at "cm") => `(tactic| first | (with_reducible assumption) | (refine cmul_s ?_ ?_ ?_ ?_ <;> first | omega | decide))
local macro_rules | `(tactic| walk_at "rv") => `(tactic| first
  | with_reducible exact rv_add | ((with_reducible apply rv_addT); walk_at "sd") | ((with_reducible apply rv_addL); walk_at "sd") | ((with_reducible apply rv_addU); walk_at "sd")
  | with_reducible exact rv_sub | ((with_reducible apply rv_mul); walk_at "cm") | ((with_reducible apply rv_mulT) <;> walk_at "sd")
  | ((with_reducible apply rv_div); first | assumption | exact cdiv_s (by walk_at "sd") (by walk_at "sd")) | ((with_reducible apply rv_mod); walk_at "sd") | ((with_reducible apply rv_pow); exact ⟨by decide, by decide, by decide⟩)
  | with_reducible exact rv_lt | with_reducible exact rv_le | with_reducible exact rv_gt | with_reducible exact rv_ge
  | with_reducible exact rv_eqI | with_reducible exact rv_eqT | with_reducible exact rv_eqB | with_reducible exact rv_neI | with_reducible exact rv_neT | with_reducible exact rv_neB
  | ((with_reducible apply rv_ixL); first | with_reducible assumption | exact rfl) | ((with_reducible apply rv_ixU); first | with_reducible assumption | exact rfl) | ((with_reducible apply rv_ixT); (focus (first | with_reducible assumption | exact rfl)); walk_at "sd")
  | with_reducible exact rv_isN | with_reducible exact rv_isN' | with_reducible exact rv_notN'
  | with_reducible exact rv_inT | with_reducible exact rv_ninT | with_reducible exact rv_inTs | with_reducible exact rv_ninTs | with_reducible assumption)
local macro_rules | `(tactic| walk_at "rc") => `(tactic| first | with_reducible exact rc_int | with_reducible exact rc_intB | with_reducible exact rc_lenL | with_reducible exact rc_lenU | ((with_reducible apply rc_lenT); walk_at "sd") | with_reducible exact rc_min | with_reducible exact rc_tupleL | with_reducible exact rc_tupleU | with_reducible exact rc_listL | with_reducible exact rc_listU | with_reducible exact rc_max | ((with_reducible apply rc_isi); (focus (exact rfl)); first | with_reducible exact kitT | with_reducible exact kit_NoneType_int | with_reducible exact kit_NoneType_bool | with_reducible exact kit_NoneType_str | with_reducible exact kit_NoneType_list | with_reducible exact kit_NoneType_tuple | with_reducible exact kit_bool_int | with_reducible exact kit_bool_bool | with_reducible exact kit_bool_str | with_reducible exact kit_bool_list | with_reducible exact kit_bool_tuple | with_reducible exact kit_int_int | with_reducible exact kit_int_bool | with_reducible exact kit_int_str | with_reducible exact kit_int_list | with_reducible exact kit_int_tuple | with_reducible exact kit_str_int | with_reducible exact kit_str_bool | with_reducible exact kit_str_str | with_reducible exact kit_str_list | with_reducible exact kit_str_tuple | with_reducible exact kit_list_int | with_reducible exact kit_list_bool | with_reducible exact kit_list_str | with_reducible exact kit_list_list | with_reducible exact kit_list_tuple | with_reducible exact kit_tuple_int | with_reducible exact kit_tuple_bool | with_reducible exact kit_tuple_str | with_reducible exact kit_tuple_list | with_reducible exact kit_tuple_tuple | assumption | rfl) | with_reducible assumption)
local macro_rules | `(tactic| walk_at "rs") => `(tactic| first | with_reducible exact rs_slL | with_reducible exact rs_slU | ((with_reducible apply rs_slT); walk_at "sd"))
local macro_rules | `(tactic| walk_at "ru") => `(tactic| first | ((with_reducible apply ru_rev); walk_at "sd") | with_reducible exact ru_neg)
local macro_rules | `(tactic| walk_at "rm") => `(tactic| first | with_reducible exact rm_count | with_reducible assumption)
local macro_rules | `(tactic| walk_at "eo") => `(tactic| first
  | ((with_reducible apply evo_lstX); (focus (walk_at "ev")); exact Nat.le_of_ble_eq_true rfl)
  | ((with_reducible apply evo_callS); (focus (walk_at "ev")); (focus (walk_at "fn")))
  | ((with_reducible apply evo_addL rfl); (focus (walk_at "ev")); (focus (walk_at "ev")); walk_at "sd")
  | ((with_reducible apply evo_listL rfl); walk_at "ev") | ((with_reducible apply evo_listU rfl); walk_at "ev")
  | with_reducible assumption)
local macro_rules | `(tactic| walk_at "ev") => `(tactic| first
  | (with_reducible assumption)
  | ((with_reducible apply ev_var); exact rfl)
  | with_reducible exact ev_int | with_reducible exact ev_str | with_reducible exact ev_bl | with_reducible exact ev_non | with_reducible exact ev_ty | with_reducible exact ev_ref
  | with_reducible exact eva_nil
  | ((with_reducible apply eva_cons); (focus (walk_at "ev")); (focus (walk_at "ev")))
  | ((with_reducible apply ev_op); (focus (walk_at "ev")); (focus (walk_at "ev")); (focus (walk_at "rv")))
  | ((with_reducible apply ev_cb); (focus (walk_at "ev")); (focus (walk_at "rc")))
  | ((with_reducible apply evt_test); (focus (walk_at "ev")))
  | ((with_reducible apply evt_b); (focus (walk_at "ev")))
  | ((with_reducible apply evt_not); (focus (walk_at "ev")))
  | ((with_reducible apply evt_and); (focus (walk_at "ev")); (focus (intro _; walk_at "ev")))
  | ((with_reducible apply evt_or); (focus (walk_at "ev")); (focus (intro _; walk_at "ev")))
  | with_reducible exact evt_yes
  | ((with_reducible apply ev_and); (focus (walk_at "ev")); (focus (intro _; walk_at "ev")))
  | ((with_reducible apply ev_or); (focus (walk_at "ev")); (focus (intro _; walk_at "ev")))
  | ((with_reducible apply ev_not); (focus (walk_at "ev")))
  | ((with_reducible apply ev_callS); (focus (walk_at "ev")); (focus (walk_at "fn")))
  | ((with_reducible apply ev_call); (focus (walk_at "ev")); (focus (walk_at "fn")))
  | ((with_reducible apply ev_tupX); (focus (walk_at "ev")); exact Nat.le_of_ble_eq_true rfl)
  | with_reducible exact evp_none
  | ((with_reducible apply evp_some); (focus (walk_at "ev")))
  | ((with_reducible apply ev_sl); (focus (walk_at "ev")); (focus (walk_at "ev")); (focus (walk_at "ev")); (focus (walk_at "rs")))
  | ((with_reducible apply ev_un); (focus (walk_at "ev")); (focus (walk_at "ru")))
  | ((with_reducible apply ev_bmT); (focus (walk_at "ev")); (focus (walk_at "ev")); (focus (walk_at "rm")))
  | ((with_reducible apply ev_bmT0); (focus (walk_at "ev")); (focus (walk_at "rm")))
  | ((with_reducible apply evi_list); (focus (walk_at "ev")))
  | ((with_reducible apply evi_tup); (focus (walk_at "ev")))
  | ((with_reducible apply evi_str); (focus (walk_at "ev")))
  | ((with_reducible apply evi_rng1); (focus (walk_at "ev")); (focus (constructor <;> walk_at "sd")))
  | ((with_reducible apply evi_rng2); (focus (walk_at "ev")); (focus (constructor <;> walk_at "sd")); (focus (constructor <;> walk_at "sd")))
  | ((with_reducible apply Ev.of_own); walk_at "eo")
  | with_reducible assumption)
local macro_rules | `(tactic| walk_at "st") => `(tactic| repeat (first
  | (with_reducible apply sv_seq)
  | ((with_reducible apply sv_set); (focus (walk_at "ev")); (focus (walk_at "at")))
  | ((with_reducible apply sv_drop); (focus (walk_at "ev")))
  | (with_reducible apply sv_next)))
local macro_rules | `(tactic| walk_at "eq") => `(tactic| (with_reducible apply ev_eq); (focus (walk_at "ev")); rfl)
theorem far_at {B : Bx} {Γ : List Sl} {i : Int} (h : 0 ≤ i ∧ i < 6) : ∃ f : Int, atI [D.int 0, .int 1, .int 5, .int 1000, .int (10 ^ (12 : Int).toNat), .int (10 ^ (30 : Int).toNat)] i = some (.int f) := by
  have : i = 0 ∨ i = 1 ∨ i = 2 ∨ i = 3 ∨ i = 4 ∨ i = 5 := by omega
  rcases this with rfl | rfl | rfl | rfl | rfl | rfl <;> exact ⟨_, rfl⟩
theorem mod_ix {α : Type} {l : List α} {i : Int} (hl : l.length ≠ 0) : ∃ n : Nat, i % ((l.length : Nat) : Int) = (n : Int) ∧ n < l.length := by
  have h1 := Int.emod_nonneg i (b := ((l.length : Nat) : Int)) (by omega)
  have h2 := Int.emod_lt_of_pos i (b := ((l.length : Nat) : Int)) (by omega)
  exact ⟨(i % ((l.length : Nat) : Int)).toNat, by omega, by omega⟩
theorem pure__law_spoilt {mg : Str → Option Value} {w : World} (B : Bx) (T : Tx w B.K mg) (W : WX) (ds : List D) (R : Sl → Prop) (X : Xc → Prop) (h : F__law_spoilt B.K ds R X) : Sv B W (t__law_spoilt w B.K W) (ini N__law_spoilt ds) { nx := fun _ => R (.dat .non), rt := R, xc := fun x _ => X x } := by
  obtain ⟨r, d0, d1, d2, d3, d4, sec, x, y, z, rfl, hr, hx, hy, hz, h0, h1, h2, h3, h4, hR⟩ := h
  show Sv B W (t__law_spoilt w B.K W) [.dat (.lst (rwL r)), .dat (.lst [.int d0, .int d1, .int d2, .int d3, .int d4]), .dat (.int sec), .un, .un, .un, .un, .un, .un, .un, .un, .un] _
  unfold t__law_spoilt
  have a0 : atI [D.int d0, .int d1, .int d2, .int d3, .int d4] (0 : Int) = some (.int d0) := rfl
  have a1 : atI [D.int d0, .int d1, .int d2, .int d3, .int d4] (1 : Int) = some (.int d1) := rfl
  have a2 : atI [D.int d0, .int d1, .int d2, .int d3, .int d4] (2 : Int) = some (.int d2) := rfl
  have a3 : atI [D.int d0, .int d1, .int d2, .int d3, .int d4] (3 : Int) = some (.int d3) := rfl
  have a4 : atI [D.int d0, .int d1, .int d2, .int d3, .int d4] (4 : Int) = some (.int d4) := rfl
  have hrx : r.length ≤ x := hr.1
  have fin : ∀ (c0 c1 c2 c4 c5 c6 c7 c8 c9 c10 : Sl) (A : Addr) (tau : Addr → Option Nat) (M : Mem), TypS tau (capS (x + 1) (y + 1) (z + 1)) M → tau A = some 3 → ∀ P' : Po, (∀ s, R s → P'.rt s) → Sv B W (tRet (tVar 3)) [c0, c1, c2, .dat (.ref A), c4, c5, c6, c7, c8, c9, c10, .mem M] P' := fun c0 c1 c2 c4 c5 c6 c7 c8 c9 c10 A tau M T hA P' hP => by
    obtain ⟨r', v, hb⟩ := T.rw hA
    exact sv_viewAll (m := 11) (Γ' := [.un, .un, .un, .dat (rwD r'), .un, .un, .un, .un, .un, .un, .un, .mem mem0]) rfl (.cons .any (.cons .any (.cons .any (.cons (.dat v) (.cons .any (.cons .any (.cons .any (.cons .any (.cons .any (.cons .any (.cons .any (.cons .mem .nil)))))))))))) (sv_ret (ev_var rfl) (hP _ (hR r' hb)))
  refine sv_mem0 11 (.succ (.succ (.succ (.succ (.succ (.succ (.succ (.succ (.succ (.succ (.succ .zero))))))))))) ?_
  refine sv_seq (sv_setE (eve_lst (m := 11) eva_nil (by decide) rfl fun A hA0 => ⟨_, SetAt.succ (SetAt.succ (SetAt.succ SetAt.zero)), ?_⟩))
  refine sv_seq (sv_forI (fun it : List (List D) => .lst (it.map .lst)) r (evi_list (ev_var rfl)) (fun i Γ' => ∃ (M : Mem) (tau : Addr → Option Nat) (ds : List D) (c4 : Sl), Γ' = [.dat (.lst (rwL r)), .dat (.lst [.int d0, .int d1, .int d2, .int d3, .int d4]), .dat (.int sec), .dat (.ref A), c4, .un, .un, .un, .un, .un, .un, .mem M] ∧ TypS tau (capS x y z) M ∧ tau A = none ∧ M A = some (.lst ds) ∧ ds.length = i ∧ ∀ d ∈ ds, EltS tau 3 d) ⟨_, fun _ => none, [], _, rfl, fun a k e => (nomatch e), rfl, ups_same, rfl, fun _ h => nomatch h⟩ ?_ ?_)
  rotate_left
  · rintro i it Γ' hi ⟨M, tau, ds, c4, rfl, hT, htA, hMA, hdl, hds⟩
    refine ⟨_, evg_name (by walk_at "at"), ?_⟩
    obtain ⟨hm1, hm2⟩ := hr.2 it (List.mem_of_getElem? hi)
    have hil : i < r.length := (List.getElem?_eq_some_iff.mp hi).1
    refine sv_dropE (eve_mApp (m := 11) (ev_var rfl) rfl hMA (eve_lcM (m := 11) (i := 5) (fun os : List D => D.lst os) it (evi_list (ev_var rfl)) rfl rfl (by omega) (fun p k rs M => rs.length = k ∧ ∃ tau, TypS tau (capS x y z) M ∧ tau A = none ∧ tau p = none ∧ p ≠ A ∧ M A = some (.lst ds) ∧ M p = some (.lst rs) ∧ (∀ d ∈ ds, EltS tau 3 d) ∧ ∀ d ∈ rs, EltS tau 2 d) ?_ ?_ ?_ ?_))
    · intro p hp
      have hAp := ne_of hMA hp
      exact ⟨rfl, tau, hT.off (hT.tn hp), htA, hT.tn hp, Ne.symm hAp, by rw [ups_ne hAp]; exact hMA, ups_same, hds, fun _ h => nomatch h⟩
    · exact fun p k rs M h => h.1
    · rintro p k os rs M hk ⟨hrl, tau, hT, htA, htp, hpA, hMA, hMp, hds, hrs⟩
      obtain ⟨ho1, ho2⟩ := hm2 os (List.mem_of_getElem? hk)
      refine eve_own (m := 11) (evo_listL rfl (eva_cons (ev_var rfl) eva_nil)) rfl fun q hq => ⟨ups M q (.lst os), rfl, by rw [ups_ne (ne_of hMp hq)]; exact hMp, ?_⟩
      have htq := hT.tn hq
      have hpq := ne_of hMp hq
      have hAq := ne_of hMA hq
      have mo := upT_mono (k := 1) htq
      have hp1 : upT tau q 1 p = none := by unfold upT; rw [if_neg hpq]; exact htp
      refine ⟨by rw [List.length_append, hrl]; rfl, upT tau q 1, (hT.up (k := 1) htq ho1 ho2).off hp1, by unfold upT; rw [if_neg hAq]; exact htA, hp1, hpA, by rw [ups_ne (Ne.symm hpA), ups_ne hAq]; exact hMA, ups_same, fun d hd => EltS.mono mo 3 d (hds d hd), fun d hd => ?_⟩
      rcases List.mem_append.mp hd with hd | hd
      · exact EltS.mono mo 2 d (hrs d hd)
      · rw [List.mem_singleton] at hd; subst hd; exact ⟨q, rfl, upT_same⟩
    · rintro p rs M ⟨hrl, tau, hT, htA, htp, hpA, hMA, hMp, hds, hrs⟩
      refine ⟨M, ds, rfl, hMA, by omega, ?_⟩
      have mo := upT_mono (k := 2) htp
      have hA2 : upT tau p 2 A = none := by unfold upT; rw [if_neg (Ne.symm hpA)]; exact htA
      refine ⟨_, upT tau p 2, ds ++ [.ref p], _, rfl, (hT.up0 (k := 2) htp hMp (by show rs.length ≤ y; omega) hrs).off hA2, hA2, ups_same, by rw [List.length_append, hdl]; rfl, fun d hd => ?_⟩
      rcases List.mem_append.mp hd with hd | hd
      · exact EltS.mono mo 3 d (hds d hd)
      · rw [List.mem_singleton] at hd; subst hd; exact ⟨p, rfl, upT_same⟩
  rintro Γ' ⟨M, tau, ds, c4, rfl, hT, htA, hMA, hdl, hds⟩
  have hT := hT.up0 (k := 3) htA hMA (show ds.length ≤ x by omega) hds
  have hds := fun d hd => EltS.mono (upT_mono (k := 3) htA) 3 d (hds d hd)
  have hA : upT tau A 3 A = some 3 := upT_same
  clear htA
  generalize upT tau A 3 = tau at *
  have hT1 := hT.mono capS_le
  refine sv_seq (sv_set (ev_op (ev_var rfl) ev_int (rv_ixL a0)) (by walk_at "at") ?_)
  have lenA : ∀ Γ : List Sl, Γ[3]? = some (.dat (.ref A)) → Γ[11]? = some (.mem M) → Ev B (tCB (zLen B.K) (tCons (tVar 3) tNil)) Γ (.int ds.length) := fun Γ g1 g2 => ev_lenM (m := 11) rfl (eva_cons (ev_var g1) eva_nil) g2 hMA
  by_cases hd0 : ds.length = 0
  · exact sv_seq (sv_if (p := true) (evt_eq (evt_test (ev_op (lenA _ rfl rfl) ev_int rv_eqI)) (decide_eq_true (by omega))) (fun _ => fin _ _ _ _ _ _ _ _ _ _ A tau M hT1 hA _ fun _ h => h) fun h => nomatch h)
  refine sv_seq (sv_if (p := false) (evt_eq (evt_test (ev_op (lenA _ rfl rfl) ev_int rv_eqI)) (decide_eq_false (by omega))) (fun h => nomatch h) fun _ => sv_next ?_)
  by_cases k32 : d0 = 32
  · refine sv_seq (sv_if (p := true) (evt_eq (evt_test (ev_op (ev_var rfl) ev_int rv_eqI)) (decide_eq_true k32)) (fun _ => ?_) fun h => nomatch h)
    obtain ⟨r', v, hb⟩ := hT.rw hA
    refine sv_viewAll (m := 11) (Γ' := [.un, .un, .un, .dat (.lst (rwL r')), .un, .un, .un, .un, .un, .un, .un, .mem mem0]) rfl (.cons .any (.cons .any (.cons .any (.cons (.dat v) (.cons .any (.cons .any (.cons .any (.cons .any (.cons .any (.cons .any (.cons .any (.cons .mem .nil)))))))))))) ?_
    have hrl : (rwL r').length = r'.length := by unfold rwL; rw [List.length_map]
    refine sv_retD (ev_sl (ev_var rfl) evp_none (evp_some (ev_op (ev_cb (eva_cons (ev_var rfl) eva_nil) rc_lenL) ev_int rv_sub)) rs_slL) (hR (cut r' none (some (((rwL r').length : Nat) - 1))) ?_) ?_
    · have sub : ∀ it ∈ cut r' none (some ((((rwL r').length : Nat) : Int) - 1)), it ∈ r' := fun it hit => by
        unfold cut at hit
        exact List.mem_of_mem_drop (List.mem_of_mem_take hit)
      exact ⟨by have := cut_len r' none (some ((((rwL r').length : Nat) : Int) - 1)); have := hb.1; omega, fun it hit => (hb.mono (Nat.le_refl x) (Nat.le_succ y) (Nat.le_succ z)).2 it (sub it hit)⟩
    · show D.lst (cut (rwL r') _ _) = .lst _
      unfold cut rwL
      rw [List.map_take, List.map_drop, List.length_map]
  refine sv_seq (sv_if (p := false) (evt_eq (evt_test (ev_op (ev_var rfl) ev_int rv_eqI)) (decide_eq_false k32)) (fun h => nomatch h) fun _ => sv_next ?_)
  have hdx : ds.length ≤ x := by obtain ⟨ds', e1, e2, _⟩ := hT A 3 hA; rw [hMA] at e1; cases e1; exact e2
  by_cases k33 : d0 = 33
  · refine sv_seq (sv_if (p := true) (evt_eq (evt_test (ev_op (ev_var rfl) ev_int rv_eqI)) (decide_eq_true k33)) (fun _ => ?_) fun h => nomatch h)
    have he : ds[0]? = some ds[0] := List.getElem?_eq_getElem (by omega)
    obtain ⟨b, e, hb⟩ := hds _ (List.getElem_mem (show 0 < ds.length by omega))
    rw [e] at he
    obtain ⟨ls, hls, hll, hle⟩ := hT b 2 hb
    have hll : ls.length ≤ y := hll
    refine sv_seq (sv_dropE (eve_mApp (m := 11) (ev_var rfl) rfl hMA (eve_lcF (m := 11) (i := 5) (a := b) (ev_mIx (m := 11) rfl (ev_var rfl) hMA ev_int (atI_ofNat (n := 0) he)) hls rfl rfl (by omega) (fun p k rs M' => (rs.length = k ∧ M' b = some (.lst ls)) ∧ ∃ tau', TypS tau' (capS x y z) M' ∧ (∀ a k, tau a = some k → tau' a = some k) ∧ tau' p = none ∧ p ≠ A ∧ p ≠ b ∧ M' A = some (.lst ds) ∧ M' p = some (.lst rs) ∧ ∀ d ∈ rs, EltS tau' 2 d) ?_ ?_ ?_ ?_)))
    · intro p hp
      have hAp := ne_of hMA hp
      have hbp := ne_of hls hp
      exact ⟨⟨rfl, by rw [ups_ne hbp]; exact hls⟩, tau, hT.off (hT.tn hp), fun _ _ h => h, hT.tn hp, Ne.symm hAp, Ne.symm hbp, by rw [ups_ne hAp]; exact hMA, ups_same, fun _ h => nomatch h⟩
    · exact fun p k rs M h => h.1
    · rintro p k xx rs M' hk ⟨⟨hrl, hMb⟩, tau', hT', hmo, htp, hpA, hpb, hMA', hMp, hrs⟩
      obtain ⟨o, rfl, ho⟩ := hle xx (List.mem_of_getElem? hk)
      obtain ⟨os, hos, hol, hoe⟩ := hT' o 1 (hmo o 1 ho)
      refine eve_own (m := 11) (evo_listM (m := 11) rfl (eva_cons (ev_var rfl) eva_nil) rfl hos) rfl fun q hq => ⟨ups M' q (.lst os), rfl, by rw [ups_ne (ne_of hMp hq)]; exact hMp, ?_⟩
      have htq := hT'.tn hq
      have hpq := ne_of hMp hq
      have hAq := ne_of hMA' hq
      have hbq := ne_of hMb hq
      have mo := upT_mono (k := 1) htq
      have hp1 : upT tau' q 1 p = none := by unfold upT; rw [if_neg hpq]; exact htp
      refine ⟨⟨by rw [List.length_append, hrl]; rfl, by rw [ups_ne (Ne.symm hpb), ups_ne hbq]; exact hMb⟩, upT tau' q 1, (hT'.up (k := 1) htq hol hoe).off hp1, fun a k h => mo a k (hmo a k h), hp1, hpA, hpb, by rw [ups_ne (Ne.symm hpA), ups_ne hAq]; exact hMA', ups_same, fun d hd => ?_⟩
      rcases List.mem_append.mp hd with hd | hd
      · exact EltS.mono mo 2 d (hrs d hd)
      · rw [List.mem_singleton] at hd; subst hd; exact ⟨q, rfl, upT_same⟩
    · rintro p rs M' ⟨⟨hrl, hMb⟩, tau', hT', hmo, htp, hpA, hpb, hMA', hMp, hrs⟩
      refine ⟨M', ds, rfl, hMA', by omega, ?_⟩
      have mo := upT_mono (k := 2) htp
      have T2 := hT'.up0 (k := 2) htp hMp (by show rs.length ≤ y; omega) hrs
      have T3 := T2.set (q := A) (k := 3) (l := ds ++ [.ref p]) capS_le (mo A 3 (hmo A 3 hA)) (by rw [List.length_append, List.length_singleton]; show ds.length + 1 ≤ x + 1; omega) fun d hd => by
        rcases List.mem_append.mp hd with hd | hd
        · exact EltS.mono (fun a k h => mo a k (hmo a k h)) 3 d (hds d hd)
        · rw [List.mem_singleton] at hd; subst hd; exact ⟨p, rfl, upT_same⟩
      exact fin _ _ _ _ _ _ _ _ _ _ A _ _ T3 (mo A 3 (hmo A 3 hA)) _ fun _ h => h
  refine sv_seq (sv_if (p := false) (evt_eq (evt_test (ev_op (ev_var rfl) ev_int rv_eqI)) (decide_eq_false k33)) (fun h => nomatch h) fun _ => sv_next ?_)
  obtain ⟨n1, hn1, hn1l⟩ := mod_ix (i := d1) hd0
  have he : ds[n1]? = some ds[n1] := List.getElem?_eq_getElem hn1l
  obtain ⟨b, e, hb⟩ := hds _ (List.getElem_mem hn1l)
  rw [e] at he
  obtain ⟨ls, hls, hll, hle⟩ := hT b 2 hb
  have hll : ls.length ≤ y := hll
  refine sv_seq (sv_set (d := .ref b) (ev_mIx (m := 11) rfl (ev_var rfl) hMA (ev_eq (ev_op (ev_cb (eva_cons (ev_op (ev_var rfl) ev_int (rv_ixL a1)) eva_nil) rc_int) (lenA _ rfl rfl) (rv_mod (by omega))) (congrArg D.int hn1)) (atI_ofNat he)) (by walk_at "at") ?_)
  have lenB : ∀ Γ : List Sl, Γ[4]? = some (.dat (.ref b)) → Γ[11]? = some (.mem M) → Ev B (tCB (zLen B.K) (tCons (tVar 4) tNil)) Γ (.int ls.length) := fun Γ g1 g2 => ev_lenM (m := 11) rfl (eva_cons (ev_var g1) eva_nil) g2 hls
  by_cases hl0 : ls.length = 0
  · exact sv_seq (sv_if (p := true) (evt_eq (evt_test (ev_op (lenB _ rfl rfl) ev_int rv_eqI)) (decide_eq_true (by omega))) (fun _ => fin _ _ _ _ _ _ _ _ _ _ A tau M hT1 hA _ fun _ h => h) fun h => nomatch h)
  refine sv_seq (sv_if (p := false) (evt_eq (evt_test (ev_op (lenB _ rfl rfl) ev_int rv_eqI)) (decide_eq_false (by omega))) (fun h => nomatch h) fun _ => sv_next ?_)
  obtain ⟨n2, hn2, hn2l⟩ := mod_ix (i := d2) hl0
  have hf : ls[n2]? = some ls[n2] := List.getElem?_eq_getElem hn2l
  obtain ⟨p, e, hp⟩ := hle _ (List.getElem_mem hn2l)
  rw [e] at hf
  obtain ⟨os, hos, hol, hoe⟩ := hT p 1 hp
  have hol : os.length ≤ z := hol
  refine sv_seq (sv_set (d := .int n2) (ev_eq (ev_op (ev_cb (eva_cons (ev_op (ev_var rfl) ev_int (rv_ixL a2)) eva_nil) rc_int) (lenB _ rfl rfl) (rv_mod (by omega))) (congrArg D.int hn2)) (by walk_at "at") ?_)
  refine sv_seq (sv_set (d := .ref p) (ev_mIx (m := 11) rfl (ev_var rfl) hls (ev_var rfl) (atI_ofNat hf)) (by walk_at "at") ?_)
  by_cases k30 : d0 = 30
  · refine sv_seq (sv_if (p := true) (evt_eq (evt_test (ev_op (ev_var rfl) ev_int rv_eqI)) (decide_eq_true k30)) (fun _ => ?_) fun h => nomatch h)
    refine sv_seq (sv_dropE (eve_mPopAt (m := 11) (n := n2) (ev_var rfl) (ev_var rfl) rfl hls hf (by omega) ?_))
    exact fin _ _ _ _ _ _ _ _ _ _ A tau _ (hT.set capS_le hb (by have := List.length_eraseIdx_le ls n2; show (ls.eraseIdx n2).length ≤ y + 1; omega) fun d hd => hle d (List.mem_of_mem_eraseIdx hd)) hA _ fun _ h => h
  refine sv_seq (sv_if (p := false) (evt_eq (evt_test (ev_op (ev_var rfl) ev_int rv_eqI)) (decide_eq_false k30)) (fun h => nomatch h) fun _ => sv_next ?_)
  by_cases k31 : d0 = 31
  · refine sv_seq (sv_if (p := true) (evt_eq (evt_test (ev_op (ev_var rfl) ev_int rv_eqI)) (decide_eq_true k31)) (fun _ => ?_) fun h => nomatch h)
    refine sv_seq (sv_dropE (eve_mApp (m := 11) (ev_var rfl) rfl hls (eve_own (m := 11) (evo_listM (m := 11) rfl (eva_cons (ev_var rfl) eva_nil) rfl hos) rfl fun q hq => ⟨_, ls, rfl, by rw [ups_ne (ne_of hls hq)]; exact hls, by omega, ?_⟩)))
    have htq := hT.tn hq
    have mo := upT_mono (k := 1) htq
    refine fin _ _ _ _ _ _ _ _ _ _ A _ _ ((hT.up (k := 1) htq hol hoe).set (q := b) (k := 2) capS_le (mo b 2 hb) (by rw [List.length_append, List.length_singleton]; show ls.length + 1 ≤ y + 1; omega) fun d hd => ?_) (mo A 3 hA) _ fun _ h => h
    rcases List.mem_append.mp hd with hd | hd
    · exact EltS.mono mo 2 d (hle d hd)
    · rw [List.mem_singleton] at hd; subst hd; exact ⟨q, rfl, upT_same⟩
  refine sv_seq (sv_if (p := false) (evt_eq (evt_test (ev_op (ev_var rfl) ev_int rv_eqI)) (decide_eq_false k31)) (fun h => nomatch h) fun _ => sv_next ?_)
  have lenP : ∀ Γ : List Sl, Γ[5]? = some (.dat (.ref p)) → Γ[11]? = some (.mem M) → Ev B (tCB (zLen B.K) (tCons (tVar 5) tNil)) Γ (.int os.length) := fun Γ g1 g2 => ev_lenM (m := 11) rfl (eva_cons (ev_var g1) eva_nil) g2 hos
  by_cases ho0 : os.length = 0
  · exact sv_seq (sv_if (p := true) (evt_eq (evt_test (ev_op (lenP _ rfl rfl) ev_int rv_eqI)) (decide_eq_true (by omega))) (fun _ => fin _ _ _ _ _ _ _ _ _ _ A tau M hT1 hA _ fun _ h => h) fun h => nomatch h)
  refine sv_seq (sv_if (p := false) (evt_eq (evt_test (ev_op (lenP _ rfl rfl) ev_int rv_eqI)) (decide_eq_false (by omega))) (fun h => nomatch h) fun _ => sv_next ?_)
  obtain ⟨n3, hn3, hn3l⟩ := mod_ix (i := d3) ho0
  have hg : os[n3]? = some os[n3] := List.getElem?_eq_getElem hn3l
  have hgo := hoe _ (List.getElem_mem hn3l)
  generalize os[n3] = o at hg hgo
  refine sv_seq (sv_set (d := .int n3) (ev_eq (ev_op (ev_cb (eva_cons (ev_op (ev_var rfl) ev_int (rv_ixL a3)) eva_nil) rc_int) (lenP _ rfl rfl) (rv_mod (by omega))) (congrArg D.int hn3)) (by walk_at "at") ?_)
  by_cases k28 : d0 = 28
  · refine sv_seq (sv_if (p := true) (evt_eq (evt_test (ev_op (ev_var rfl) ev_int rv_eqI)) (decide_eq_true k28)) (fun _ => ?_) fun h => nomatch h)
    refine sv_seq (sv_dropE (eve_mPopAt (m := 11) (n := n3) (ev_var rfl) (ev_var rfl) rfl hos hg (by omega) ?_))
    exact fin _ _ _ _ _ _ _ _ _ _ A tau _ (hT.set capS_le hp (by have := List.length_eraseIdx_le os n3; show (os.eraseIdx n3).length ≤ z + 1; omega) fun d hd => hoe d (List.mem_of_mem_eraseIdx hd)) hA _ fun _ h => h
  refine sv_seq (sv_if (p := false) (evt_eq (evt_test (ev_op (ev_var rfl) ev_int rv_eqI)) (decide_eq_false k28)) (fun h => nomatch h) fun _ => sv_next ?_)
  by_cases k29 : d0 = 29
  · refine sv_seq (sv_if (p := true) (evt_eq (evt_test (ev_op (ev_var rfl) ev_int rv_eqI)) (decide_eq_true k29)) (fun _ => ?_) fun h => nomatch h)
    refine sv_seq (sv_dropE (eve_mApp (m := 11) (ev_var rfl) rfl hos (eve_of (ev_mIx (m := 11) rfl (ev_var rfl) hos (ev_var rfl) (atI_ofNat hg)) ⟨M, os, rfl, hos, by omega, ?_⟩)))
    refine fin _ _ _ _ _ _ _ _ _ _ A tau _ (hT.set capS_le hp (by rw [List.length_append, List.length_singleton]; show os.length + 1 ≤ z + 1; omega) fun d hd => ?_) hA _ fun _ h => h
    rcases List.mem_append.mp hd with hd | hd
    · exact hoe d hd
    · rw [List.mem_singleton] at hd; subst hd; exact hgo
  refine sv_seq (sv_if (p := false) (evt_eq (evt_test (ev_op (ev_var rfl) ev_int rv_eqI)) (decide_eq_false k29)) (fun h => nomatch h) fun _ => sv_next ?_)
  refine sv_seq (sv_set (d := o) (ev_mIx (m := 11) rfl (ev_var rfl) hos (ev_var rfl) (atI_ofNat hg)) (by walk_at "at") ?_)
  -- the changed option
  have hk28 : d0.toNat < 28 := by omega
  have hd0n : d0 = (d0.toNat : Int) := by omega
  have rest : ∀ u1 u2 u3 u4 : D, flD u1 = true → flD u2 = true → flD u3 = true → flD u4 = true → ∀ c10 : Sl, Sv B W (tSeq (tAsg (tOp (zIx B.K) (tLst (tCons (tC (.int 0)) (tCons (tC (.int 1)) (tCons (tC (.int 5)) (tCons (tC (.int 1000)) (tCons (tOp zPow (tC (.int 10)) (tC (.int 12))) (tCons (tOp zPow (tC (.int 10)) (tC (.int 30))) tNil))))))) (tOp (zIx B.K) (tVar 1) (tC (.int 4)))) (gName 10))
      (tSeq (tAsg (tCallS (spz B.K (F__law_other_option B.K)) (WE W) (tCons (tVar 6) (tCons (tVar 9) (tCons (tVar 10) (tCons (tVar 2) (tCons (tCB (zLen B.K) (tCons (tVar 3) tNil)) tNil)))))) (gSub (tVar 5) (tVar 8) zSet))
      (tRet (tVar 3)))) [.dat (.lst (rwL r)), .dat (.lst [.int d0, .int d1, .int d2, .int d3, .int d4]), .dat (.int sec), .dat (.ref A), .dat (.ref b), .dat (.ref p), .dat (.int d0), .dat (.int n2), .dat (.int n3), .dat (.tup [u1, u2, u3, u4]), c10, .mem M] { nx := fun _ => R (.dat .non), rt := R, xc := fun x _ => X x } := by
    intro u1 u2 u3 u4 f1 f2 f3 f4 c10
    obtain ⟨far, hfar⟩ := far_at (B := B) (Γ := []) h4
    refine sv_seq (sv_set (d := .int far) (ev_op (Ev.of_own (evo_lstX (ds := [.int 0, .int 1, .int 5, .int 1000, .int (10 ^ (12 : Int).toNat), .int (10 ^ (30 : Int).toNat)]) (by walk_at "ev") (Nat.le_of_ble_eq_true rfl))) (ev_op (ev_var rfl) ev_int (rv_ixL a4)) (rv_ixL hfar)) (by walk_at "at") ?_)
    refine sv_seq (sv_mStL (m := 11) (eve_callF (eva_cons (ev_eq (ev_var rfl) (congrArg D.int hd0n)) (eva_cons (ev_var rfl) (eva_cons (ev_var rfl) (eva_cons (ev_var rfl) (eva_cons (lenA _ rfl rfl) eva_nil))))) ⟨d0.toNat, u1, u2, u3, u4, far, sec, ds.length, rfl, hk28, f1, f2, f3, f4, fun o' ho' => ⟨o', rfl, M, os, p, (n3 : Int), n3, rfl, hos, ev_var rfl, ev_var rfl, ixN_of (by omega) (by omega), ?_⟩⟩))
    refine fin _ _ _ _ _ _ _ _ _ _ A tau _ (hT.set capS_le hp (by rw [List.length_set]; show os.length ≤ z + 1; omega) fun d hd => ?_) hA _ fun _ h => h
    rcases mem_set0 hd with rfl | hd
    · exact ho'
    · exact hoe d hd
  have deflt : Sv B W (tAsg (tTup (tCons (tC (.int 1)) (tCons (tC (.int 0)) (tCons (tC (.int 0)) (tCons (tC (.int 0)) tNil))))) (gName 9)) [.dat (.lst (rwL r)), .dat (.lst [.int d0, .int d1, .int d2, .int d3, .int d4]), .dat (.int sec), .dat (.ref A), .dat (.ref b), .dat (.ref p), .dat (.int d0), .dat (.int n2), .dat (.int n3), .dat o, .un, .mem M] { nx := fun Γ' => Sv B W (tSeq (tAsg (tOp (zIx B.K) (tLst (tCons (tC (.int 0)) (tCons (tC (.int 1)) (tCons (tC (.int 5)) (tCons (tC (.int 1000)) (tCons (tOp zPow (tC (.int 10)) (tC (.int 12))) (tCons (tOp zPow (tC (.int 10)) (tC (.int 30))) tNil))))))) (tOp (zIx B.K) (tVar 1) (tC (.int 4)))) (gName 10)) (tSeq (tAsg (tCallS (spz B.K (F__law_other_option B.K)) (WE W) (tCons (tVar 6) (tCons (tVar 9) (tCons (tVar 10) (tCons (tVar 2) (tCons (tCB (zLen B.K) (tCons (tVar 3) tNil)) tNil)))))) (gSub (tVar 5) (tVar 8) zSet)) (tRet (tVar 3)))) Γ' { nx := fun _ => R (.dat .non), rt := R, xc := fun x _ => X x }, rt := R, xc := fun x _ => X x } := sv_set (d := .tup [.int 1, .int 0, .int 0, .int 0]) (by walk_at "ev") (by walk_at "at") (rest _ _ _ _ rfl rfl rfl rfl _)
  rcases hgo with hf | ⟨l, rfl, hl5, hlf⟩
  · have ht : EvT B (tNot (tB (tCB (zIsi B.K) (tCons (tVar 9) (tCons (tC (.ty "tuple")) tNil))))) [.dat (.lst (rwL r)), .dat (.lst [.int d0, .int d1, .int d2, .int d3, .int d4]), .dat (.int sec), .dat (.ref A), .dat (.ref b), .dat (.ref p), .dat (.int d0), .dat (.int n2), .dat (.int n3), .dat o, .un, .mem M] true := by
      refine evt_eq (evt_not (p := false) (evt_b ?_)) rfl
      cases o <;> first | walk_at "ev" | cases hf
    exact sv_seq (sv_if (p := true) (evt_or (p := true) (q := true) ht fun h => nomatch h) (fun _ => deflt) fun h => nomatch h)
  · by_cases hl4 : l.length = 4
    · obtain ⟨u1, u2, u3, u4, rfl⟩ := list4 hl4
      have hlf' := hlf
      simp only [List.all_cons, List.all_nil, Bool.and_eq_true] at hlf'
      refine sv_seq (sv_if (p := false) (evt_eq (evt_or (p := false) (evt_eq (evt_not (p := true) (evt_b (by walk_at "ev"))) rfl) fun _ => by walk_at "ev") (by rfl)) (fun h => nomatch h) fun _ => sv_next (rest _ _ _ _ hlf'.1 hlf'.2.1 hlf'.2.2.1 hlf'.2.2.2.1 _))
    · exact sv_seq (sv_if (p := true) (evt_eq (evt_or (p := false) (evt_eq (evt_not (p := true) (evt_b (by walk_at "ev"))) rfl) fun _ => by walk_at "ev") (by rw [decide_eq_false (by omega)]; rfl)) (fun _ => deflt) fun h => nomatch h)

end L

namespace L
open PySem PySem.Spec PyProof.Rows L2 Z
local macro_rules | `(tactic| walk_at "at") => `(tactic| first | with_reducible exact SetAt.zero | ((with_reducible apply SetAt.succ); walk_at "at"))
local macro_rules | `(tactic| walk_at "sd") => `(tactic| first | (with_reducible assumption) | omega | (simp only [rep_length, List.length_append, List.length_cons, List.length_nil, List.length_map, List.length_replicate, List.length_range, List.length_take, List.length_reverse] <;> omega) | decide | exact Nat.le_of_ble_eq_true rfl)
local macro_rules | `(tactic| walk_at "cm") => `(tactic| first | (with_reducible assumption) | (refine cmul_s ?_ ?_ ?_ ?_ <;> first | omega | decide))
local macro_rules | `(tactic| walk_at "rv") => `(tactic| first
  | with_reducible exact rv_add | ((with_reducible apply rv_addT); walk_at "sd") | ((with_reducible apply rv_addL); walk_at "sd") | ((with_reducible apply rv_addU); walk_at "sd")
  | with_reducible exact rv_sub | ((with_reducible apply rv_mul); walk_at "cm") | ((with_reducible apply rv_mulT) <;> walk_at "sd")
  | ((with_reducible apply rv_div); first | assumption | exact cdiv_s (by walk_at "sd") (by walk_at "sd")) | ((with_reducible apply rv_mod); walk_at "sd") | ((with_reducible apply rv_pow); exact ⟨by decide, by decide, by decide⟩)
  | with_reducible exact rv_lt | with_reducible exact rv_le | with_reducible exact rv_gt | with_reducible exact rv_ge
  | with_reducible exact rv_eqI | with_reducible exact rv_eqT | with_reducible exact rv_eqB | with_reducible exact rv_neI | with_reducible exact rv_neT | with_reducible exact rv_neB
  | ((with_reducible apply rv_ixL); first | with_reducible assumption | exact rfl) | ((with_reducible apply rv_ixU); first | with_reducible assumption | exact rfl) | ((with_reducible apply rv_ixT); (focus (first | with_reducible assumption | exact rfl)); walk_at "sd")
  | with_reducible exact rv_isN | with_reducible exact rv_isN' | with_reducible exact rv_notN'
  | with_reducible exact rv_inT | with_reducible exact rv_ninT | with_reducible exact rv_inTs | with_reducible exact rv_ninTs | with_reducible assumption)
local macro_rules | `(tactic| walk_at "rc") => `(tactic| first | with_reducible exact rc_int | with_reducible exact rc_intB | with_reducible exact rc_lenL | with_reducible exact rc_lenU | ((with_reducible apply rc_lenT); walk_at "sd") | with_reducible exact rc_min | with_reducible exact rc_tupleL | with_reducible exact rc_tupleU | with_reducible exact rc_listL | with_reducible exact rc_listU | with_reducible exact rc_max | ((with_reducible apply rc_isi); (focus (exact rfl)); first | with_reducible exact kitT | with_reducible exact kit_NoneType_int | with_reducible exact kit_NoneType_bool | with_reducible exact kit_NoneType_str | with_reducible exact kit_NoneType_list | with_reducible exact kit_NoneType_tuple | with_reducible exact kit_bool_int | with_reducible exact kit_bool_bool | with_reducible exact kit_bool_str | with_reducible exact kit_bool_list | with_reducible exact kit_bool_tuple | with_reducible exact kit_int_int | with_reducible exact kit_int_bool | with_reducible exact kit_int_str | with_reducible exact kit_int_list | with_reducible exact kit_int_tuple | with_reducible exact kit_str_int | with_reducible exact kit_str_bool | with_reducible exact kit_str_str | with_reducible exact kit_str_list | with_reducible exact kit_str_tuple | with_reducible exact kit_list_int | with_reducible exact kit_list_bool | with_reducible exact kit_list_str | with_reducible exact kit_list_list | with_reducible exact kit_list_tuple | with_reducible exact kit_tuple_int | with_reducible exact kit_tuple_bool | with_reducible exact kit_tuple_str | with_reducible exact kit_tuple_list | with_reducible exact kit_tuple_tuple | assumption | rfl) | with_reducible assumption)
local macro_rules | `(tactic| walk_at "rs") => `(tactic| first | with_reducible exact rs_slL | with_reducible exact rs_slU | ((with_reducible apply rs_slT); walk_at "sd"))
local macro_rules | `(tactic| walk_at "ru") => `(tactic| first | ((with_reducible apply ru_rev); walk_at "sd") | with_reducible exact ru_neg)
local macro_rules | `(tactic| walk_at "rm") => `(tactic| first | with_reducible exact rm_count | with_reducible assumption)
local macro_rules | `(tactic| walk_at "eo") => `(tactic| first
  | ((with_reducible apply evo_lstX); (focus (walk_at "ev")); exact Nat.le_of_ble_eq_true rfl)
  | ((with_reducible apply evo_callS); (focus (walk_at "ev")); (focus (walk_at "fn")))
  | ((with_reducible apply evo_addL rfl); (focus (walk_at "ev")); (focus (walk_at "ev")); walk_at "sd")
  | ((with_reducible apply evo_listL rfl); walk_at "ev") | ((with_reducible apply evo_listU rfl); walk_at "ev")
  | with_reducible assumption)
local macro_rules | `(tactic| walk_at "ev") => `(tactic| first
  | (with_reducible assumption)
  | ((with_reducible apply ev_var); exact rfl)
  | with_reducible exact ev_int | with_reducible exact ev_str | with_reducible exact ev_bl | with_reducible exact ev_non | with_reducible exact ev_ty | with_reducible exact ev_ref
  | with_reducible exact eva_nil
  | ((with_reducible apply eva_cons); (focus (walk_at "ev")); (focus (walk_at "ev")))
  | ((with_reducible apply ev_op); (focus (walk_at "ev")); (focus (walk_at "ev")); (focus (walk_at "rv")))
  | ((with_reducible apply ev_cb); (focus (walk_at "ev")); (focus (walk_at "rc")))
  | ((with_reducible apply evt_test); (focus (walk_at "ev")))
  | ((with_reducible apply evt_b); (focus (walk_at "ev")))
  | ((with_reducible apply evt_not); (focus (walk_at "ev")))
  | ((with_reducible apply evt_and); (focus (walk_at "ev")); (focus (intro _; walk_at "ev")))
  | ((with_reducible apply evt_or); (focus (walk_at "ev")); (focus (intro _; walk_at "ev")))
  | with_reducible exact evt_yes
  | ((with_reducible apply ev_and); (focus (walk_at "ev")); (focus (intro _; walk_at "ev")))
  | ((with_reducible apply ev_or); (focus (walk_at "ev")); (focus (intro _; walk_at "ev")))
  | ((with_reducible apply ev_not); (focus (walk_at "ev")))
  | ((with_reducible apply ev_callS); (focus (walk_at "ev")); (focus (walk_at "fn")))
  | ((with_reducible apply ev_call); (focus (walk_at "ev")); (focus (walk_at "fn")))
  | ((with_reducible apply ev_tupX); (focus (walk_at "ev")); exact Nat.le_of_ble_eq_true rfl)
  | with_reducible exact evp_none
  | ((with_reducible apply evp_some); (focus (walk_at "ev")))
  | ((with_reducible apply ev_sl); (focus (walk_at "ev")); (focus (walk_at "ev")); (focus (walk_at "ev")); (focus (walk_at "rs")))
  | ((with_reducible apply ev_un); (focus (walk_at "ev")); (focus (walk_at "ru")))
  | ((with_reducible apply ev_bmT); (focus (walk_at "ev")); (focus (walk_at "ev")); (focus (walk_at "rm")))
  | ((with_reducible apply ev_bmT0); (focus (walk_at "ev")); (focus (walk_at "rm")))
  | ((with_reducible apply evi_list); (focus (walk_at "ev")))
  | ((with_reducible apply evi_tup); (focus (walk_at "ev")))
  | ((with_reducible apply evi_str); (focus (walk_at "ev")))
  | ((with_reducible apply evi_rng1); (focus (walk_at "ev")); (focus (constructor <;> walk_at "sd")))
  | ((with_reducible apply evi_rng2); (focus (walk_at "ev")); (focus (constructor <;> walk_at "sd")); (focus (constructor <;> walk_at "sd")))
  | ((with_reducible apply Ev.of_own); walk_at "eo")
  | with_reducible assumption)
local macro_rules | `(tactic| walk_at "st") => `(tactic| repeat (first
  | (with_reducible apply sv_seq)
  | ((with_reducible apply sv_set); (focus (walk_at "ev")); (focus (walk_at "at")))
  | ((with_reducible apply sv_drop); (focus (walk_at "ev")))
  | (with_reducible apply sv_next)))
local macro_rules | `(tactic| walk_at "eq") => `(tactic| (with_reducible apply ev_eq); (focus (walk_at "ev")); rfl)
instance (ls : List Nat) : Decidable (Right ls) := by unfold Right; infer_instance
def wrongs : List (List Nat) := [[], [98, 97], [97, 97], [97, 98, 99, 100], [65], [97, 49], [97, 32, 98], [99, 97, 98], [97, 97, 98], [126], [122, 122], [98, 99, 97]]
theorem wrongs_not : ∀ w ∈ wrongs, ¬ Right w ∧ w.length ≤ 4 := by decide
theorem frz_fz : ∀ (n : Nat) (d : D), frzD n d = fz n d
  | 0, d => by cases d <;> rfl
  | n + 1, d => by
    cases d with
    | lst l => show D.tup (l.map (frzD n)) = .tup (l.map (fz n)); rw [List.map_congr_left fun x _ => frz_fz n x]
    | tup l => show D.tup (l.map (frzD n)) = .tup (l.map (fz n)); rw [List.map_congr_left fun x _ => frz_fz n x]
    | _ => rfl
theorem ok_fl {n : Nat} {d : D} (h : flD d = true) : okD (n + 1) d = true := by cases d <;> first | rfl | cases h
theorem ok_opt {n s : Nat} {d : D} (h : OptOk d) : okD (n + 2) (hvO s d) = true := by
  rcases h with h | ⟨l, rfl, hl, hf⟩
  · have e : hvO s d = d := by cases d <;> first | rfl | cases h
    rw [e]; exact ok_fl h
  · have hall : (decide (l.length < 16777216) && l.all (okD (n + 1))) = true := by
      rw [decide_eq_true (by omega), Bool.true_and, List.all_eq_true]
      exact fun x hx => ok_fl (List.all_eq_true.mp hf x hx)
    show okD (n + 2) (if s % 2 = 1 then .lst l else .tup l) = true
    by_cases q : s % 2 = 1
    · rw [if_pos q]; exact hall
    · rw [if_neg q]; exact hall
theorem ok_hvS {n : Nat} (b : Bool) {l : List D} (hl : l.length < 16777216) (h : ∀ x ∈ l, okD n x = true) : okD (n + 1) (hvS b l) = true := by
  have hall : (decide (l.length < 16777216) && l.all (okD n)) = true := by
    rw [decide_eq_true hl, Bool.true_and, List.all_eq_true]; exact h
  cases b <;> exact hall
theorem ok_hv {s : Nat} {r : Rw} (h : RwOk r) : okD 6 (hv s r) = true := by
  refine ok_hvS (n := 5) false (by rw [List.length_map]; have := h.1; omega) fun x hx => ?_
  obtain ⟨it, hit, rfl⟩ := List.mem_map.mp hx
  obtain ⟨h1, h2⟩ := h.2 it hit
  refine ok_hvS (n := 4) _ (by rw [List.length_map]; omega) fun x hx => ?_
  obtain ⟨os, hos, rfl⟩ := List.mem_map.mp hx
  obtain ⟨h3, h4⟩ := h2 os hos
  refine ok_hvS (n := 3) _ (by rw [List.length_map]; omega) fun x hx => ?_
  obtain ⟨d, hd, rfl⟩ := List.mem_map.mp hx
  exact ok_opt (h4 d hd)
theorem frz_hv {s : Nat} {r : Rw} (h : RwOk r) : frzD 6 (hv s r) = tbD r := by rw [frz_fz]; exact fz_hv (n := 2) h
theorem ref_view {N : Mem} {a : Addr} {es : List D} (h : View N (.ref a) (.lst es)) : ∃ ds, N a = some (.lst ds) ∧ Views N ds es := by
  cases h with
  | lst h v => exact ⟨_, h, v⟩
theorem pure__law_wrong_letters {mg : Str → Option Value} {w : World} (B : Bx) (T : Tx w B.K mg) (W : WX) (ds : List D) (R : Sl → Prop) (X : Xc → Prop) (h : F__law_wrong_letters B.K ds R X) : Sv B W (t__law_wrong_letters w B.K W) (ini N__law_wrong_letters ds) { nx := fun _ => R (.dat .non), rt := R, xc := fun x _ => X x } := by
  obtain ⟨lt, sec, r, number, rfl, hlt, hr, hn, hR⟩ := h
  show Sv B W (t__law_wrong_letters w B.K W) [.dat (.str (tx lt)), .dat (.int sec), .dat (rwD r), .dat (.int number), .un, .un, .un, .un] _
  unfold t__law_wrong_letters
  have hw : wrongs[number]? = some wrongs[number] := List.getElem?_eq_getElem hn
  obtain ⟨hnr, hwl⟩ := wrongs_not _ (List.getElem_mem hn)
  generalize wrongs[number] = wr at hw hnr hwl
  have hat : atI (wrongs.map fun x => D.str (tx x)) ((number : Nat) : Int) = some (.str (tx wr)) := atI_ofNat (by rw [List.getElem?_map, hw]; rfl)
  refine sv_mem0 7 (.succ (.succ (.succ (.succ (.succ (.succ (.succ .zero))))))) ?_
  refine sv_seq (sv_set (d := .str (tx wr)) (ev_op (Ev.of_own (evo_lstX (ds := [.str (tx []), .str (tx [98, 97]), .str (tx [97, 97]), .str (tx [97, 98, 99, 100]), .str (tx [65]), .str (tx [97, 49]), .str (tx [97, 32, 98]), .str (tx [99, 97, 98]), .str (tx [97, 97, 98]), .str (tx [126]), .str (tx [122, 122]), .str (tx [98, 99, 97])]) (by walk_at "ev") (Nat.le_of_ble_eq_true rfl))) (ev_var rfl) (rv_ixL hat)) (by walk_at "at") ?_)
  have hr0 : RwOk [] := ⟨by simp, fun _ h => nomatch h⟩
  have hr1 : RwOk [[]] := ⟨by simp, fun it h => by rw [List.mem_singleton] at h; subst h; exact ⟨by simp, fun _ h => nomatch h⟩⟩
  refine sv_seq (sv_for rwD [r, [], [[]]] (evi_list (ev_eq (Ev.of_own (evo_lstX (eva_cons (ev_var rfl) (eva_cons (Ev.of_own (evo_lstX eva_nil (by decide))) (eva_cons (Ev.of_own (evo_lstX (eva_cons (Ev.of_own (evo_lstX eva_nil (by decide))) eva_nil) (by decide))) eva_nil))) (Nat.le_of_ble_eq_true rfl))) rfl)) (fun _ Γ' => ∃ (M : Mem) (c5 c6 : Sl), MLst M ∧ Γ' = [.dat (.str (tx lt)), .dat (.int sec), .dat (rwD r), .dat (.int number), .dat (.str (tx wr)), c5, c6, .mem M]) ⟨mem0, _, _, fun a w e => (nomatch e), rfl⟩ ?_ ?_)
  rotate_left
  · rintro q rem Γ' ⟨pre, hp⟩ ⟨M, c5, c6, hml, rfl⟩
    refine ⟨_, evg_name (by walk_at "at"), ?_⟩
    have hq : RwOk q := by
      have : q ∈ [r, [], [[]]] := by rw [hp]; simp
      simp only [List.mem_cons, List.not_mem_nil, or_false] at this
      rcases this with rfl | rfl | rfl
      · exact hr
      · exact hr0
      · exact hr1
    refine sv_seq (sv_setE (eve_callPE (evae_cons (eve_of (ev_var rfl) (evae_cons (eve_of (ev_var rfl) (evae_cons (eve_callS (m := 7) rfl (eva_cons (ev_var rfl) (eva_cons (ev_eq (by walk_at "ev") (congrArg D.int (show ((number : Nat) : Int) % 4 = ((number % 4 : Nat) : Int) by omega))) eva_nil)) ⟨q, number % 4, rfl, hq, by omega, hml, fun a M' hT hv => evae_nil ⟨_, ⟨wr, sec, .ref a, rfl, by omega, fun _ => rfl, fun h => absurd h hnr⟩, _, SetAt.succ (SetAt.succ (SetAt.succ (SetAt.succ (SetAt.succ (SetAt.succ SetAt.zero))))), ?_⟩⟩))))))))
    have x0 : atI [D.str (tx [108, 101, 116, 116, 101, 114, 115]), .str (tx wr)] (0 : Int) = some (.str (tx [108, 101, 116, 116, 101, 114, 115])) := rfl
    have x1 : atI [D.str (tx [108, 101, 116, 116, 101, 114, 115]), .str (tx wr)] (1 : Int) = some (.str (tx wr)) := rfl
    refine sv_if (p := false) (evt_eq (evt_or (p := false) (evt_eq (evt_test (ev_op (ev_op (ev_var rfl) ev_int (rv_ixL x0)) ev_str rv_neT)) (by rw [decide_eq_true rfl]; rfl)) fun _ => evt_or (p := false) (evt_eq (evt_not (p := true) (evt_b (ev_cb (eva_cons (ev_op (ev_var rfl) ev_int (rv_ixL x1)) (by walk_at "ev")) (by walk_at "rc")))) rfl) fun _ => evt_test (ev_op (ev_op (ev_var rfl) ev_int (rv_ixL x1)) (ev_var rfl) rv_neT)) (by rw [decide_eq_true rfl]; rfl)) (fun h => nomatch h) fun _ => sv_next ⟨M', _, _, hT.1, rfl⟩
  · rintro Γ' ⟨M, c5, c6, hml, rfl⟩
    refine sv_seq (sv_for (fun x : D => x) [.lst [], .tup []] (evi_list (ev_eq (Ev.of_own (evo_lstX (eva_cons (Ev.of_own (evo_lstX eva_nil (by decide))) (eva_cons (ev_tupX eva_nil (by decide)) eva_nil)) (Nat.le_of_ble_eq_true rfl))) rfl)) (fun _ Γ' => ∃ (c5 c6 : Sl), Γ' = [.dat (.str (tx lt)), .dat (.int sec), .dat (rwD r), .dat (.int number), .dat (.str (tx wr)), c5, c6, .mem M]) ⟨_, _, rfl⟩ ?_ ?_)
    · rintro Γ' ⟨c5, c6, rfl⟩
      exact sv_retD (by walk_at "ev") hR
    · rintro x rem Γ' ⟨pre, hp⟩ ⟨c5, c6, rfl⟩
      refine ⟨_, evg_name (by walk_at "at"), ?_⟩
      have hx : okD 6 x = true ∧ frzD 6 x = tbD [] := by
        have : x ∈ [D.lst [], D.tup []] := by rw [hp]; simp
        simp only [List.mem_cons, List.not_mem_nil, or_false] at this
        rcases this with rfl | rfl <;> exact ⟨rfl, rfl⟩
      refine sv_seq (sv_set (d := .lst [.str (tx [115, 116, 97, 116, 101]), .int (0 : Nat)]) (ev_callS (eva_cons (ev_var rfl) (eva_cons (ev_var rfl) (eva_cons (ev_var rfl) eva_nil))) ⟨lt, sec, x, rfl, by have := hlt.2.1; omega, fun h => absurd hlt h, fun _ => ⟨[], hx.1, hx.2, hr0, rfl⟩⟩) (by walk_at "at") ?_)
      have x0 : atI [D.str (tx [115, 116, 97, 116, 101]), .int ((0 : Nat) : Int)] (0 : Int) = some (.str (tx [115, 116, 97, 116, 101])) := rfl
      have x1 : atI [D.str (tx [115, 116, 97, 116, 101]), .int ((0 : Nat) : Int)] (1 : Int) = some (.int ((0 : Nat) : Int)) := rfl
      exact sv_if (p := false) (evt_eq (evt_or (p := false) (evt_eq (evt_test (ev_op (ev_op (ev_var rfl) ev_int (rv_ixL x0)) ev_str rv_neT)) (by rw [decide_eq_true rfl]; rfl)) fun _ => evt_or (p := false) (evt_eq (evt_not (p := true) (evt_b (ev_callS (eva_cons (ev_op (ev_var rfl) ev_int (rv_ixL x1)) eva_nil) ⟨_, rfl, rfl, rfl⟩))) rfl) fun _ => evt_test (ev_op (ev_op (ev_var rfl) ev_int (rv_ixL x1)) ev_int rv_neI)) (by rfl)) (fun h => nomatch h) fun _ => sv_next ⟨_, _, rfl⟩

end L

namespace L
open PySem PySem.Spec PyProof.Rows L2 Z
local macro_rules | `(tactic| walk_at "at") => `(tactic| first | with_reducible exact SetAt.zero | ((with_reducible apply SetAt.succ); walk_at "at"))
local macro_rules | `(tactic| walk_at "sd") => `(tactic| first | (with_reducible assumption) | omega | (simp only [rep_length, List.length_append, List.length_cons, List.length_nil, List.length_map, List.length_replicate, List.length_range, List.length_take, List.length_reverse] <;> omega) | decide | exact Nat.le_of_ble_eq_true rfl)
local macro_rules | `(tactic| walk_at "cm") => `(tactic| first | (with_reducible assumption) | (refine cmul_s ?_ ?_ ?_ ?_ <;> first | omega | decide))
local macro_rules | `(tactic| walk_at "rv") => `(tactic| first
  | with_reducible exact rv_add | ((with_reducible apply rv_addT); walk_at "sd") | ((with_reducible apply rv_addL); walk_at "sd") | ((with_reducible apply rv_addU); walk_at "sd")
  | with_reducible exact rv_sub | ((with_reducible apply rv_mul); walk_at "cm") | ((with_reducible apply rv_mulT) <;> walk_at "sd")
  | ((with_reducible apply rv_div); first | assumption | exact cdiv_s (by walk_at "sd") (by walk_at "sd")) | ((with_reducible apply rv_mod); walk_at "sd") | ((with_reducible apply rv_pow); exact ⟨by decide, by decide, by decide⟩)
  | with_reducible exact rv_lt | with_reducible exact rv_le | with_reducible exact rv_gt | with_reducible exact rv_ge
  | with_reducible exact rv_eqI | with_reducible exact rv_eqT | with_reducible exact rv_eqB | with_reducible exact rv_neI | with_reducible exact rv_neT | with_reducible exact rv_neB
  | ((with_reducible apply rv_ixL); first | with_reducible assumption | exact rfl) | ((with_reducible apply rv_ixU); first | with_reducible assumption | exact rfl) | ((with_reducible apply rv_ixT); (focus (first | with_reducible assumption | exact rfl)); walk_at "sd")
  | with_reducible exact rv_isN | with_reducible exact rv_isN' | with_reducible exact rv_notN'
  | with_reducible exact rv_inT | with_reducible exact rv_ninT | with_reducible exact rv_inTs | with_reducible exact rv_ninTs | with_reducible assumption)
local macro_rules | `(tactic| walk_at "rc") => `(tactic| first | with_reducible exact rc_int | with_reducible exact rc_intB | with_reducible exact rc_lenL | with_reducible exact rc_lenU | ((with_reducible apply rc_lenT); walk_at "sd") | with_reducible exact rc_min | with_reducible exact rc_tupleL | with_reducible exact rc_tupleU | with_reducible exact rc_listL | with_reducible exact rc_listU | with_reducible exact rc_max | ((with_reducible apply rc_isi); (focus (exact rfl)); first | with_reducible exact kitT | with_reducible exact kit_NoneType_int | with_reducible exact kit_NoneType_bool | with_reducible exact kit_NoneType_str | with_reducible exact kit_NoneType_list | with_reducible exact kit_NoneType_tuple | with_reducible exact kit_bool_int | with_reducible exact kit_bool_bool | with_reducible exact kit_bool_str | with_reducible exact kit_bool_list | with_reducible exact kit_bool_tuple | with_reducible exact kit_int_int | with_reducible exact kit_int_bool | with_reducible exact kit_int_str | with_reducible exact kit_int_list | with_reducible exact kit_int_tuple | with_reducible exact kit_str_int | with_reducible exact kit_str_bool | with_reducible exact kit_str_str | with_reducible exact kit_str_list | with_reducible exact kit_str_tuple | with_reducible exact kit_list_int | with_reducible exact kit_list_bool | with_reducible exact kit_list_str | with_reducible exact kit_list_list | with_reducible exact kit_list_tuple | with_reducible exact kit_tuple_int | with_reducible exact kit_tuple_bool | with_reducible exact kit_tuple_str | with_reducible exact kit_tuple_list | with_reducible exact kit_tuple_tuple | assumption | rfl) | with_reducible assumption)
local macro_rules | `(tactic| walk_at "rs") => `(tactic| first | with_reducible exact rs_slL | with_reducible exact rs_slU | ((with_reducible apply rs_slT); walk_at "sd"))
local macro_rules | `(tactic| walk_at "ru") => `(tactic| first | ((with_reducible apply ru_rev); walk_at "sd") | with_reducible exact ru_neg)
local macro_rules | `(tactic| walk_at "rm") => `(tactic| first | with_reducible exact rm_count | with_reducible assumption)
local macro_rules | `(tactic| walk_at "eo") => `(tactic| first
  | ((with_reducible apply evo_lstX); (focus (walk_at "ev")); exact Nat.le_of_ble_eq_true rfl)
  | ((with_reducible apply evo_callS); (focus (walk_at "ev")); (focus (walk_at "fn")))
  | ((with_reducible apply evo_addL rfl); (focus (walk_at "ev")); (focus (walk_at "ev")); walk_at "sd")
  | ((with_reducible apply evo_listL rfl); walk_at "ev") | ((with_reducible apply evo_listU rfl); walk_at "ev")
  | with_reducible assumption)
local macro_rules | `(tactic| walk_at "ev") => `(tactic| first
  | (with_reducible assumption)
  | ((with_reducible apply ev_var); exact rfl)
  | with_reducible exact ev_int | with_reducible exact ev_str | with_reducible exact ev_bl | with_reducible exact ev_non | with_reducible exact ev_ty | with_reducible exact ev_ref
  | with_reducible exact eva_nil
  | ((with_reducible apply eva_cons); (focus (walk_at "ev")); (focus (walk_at "ev")))
  | ((with_reducible apply ev_op); (focus (walk_at "ev")); (focus (walk_at "ev")); (focus (walk_at "rv")))
  | ((with_reducible apply ev_cb); (focus (walk_at "ev")); (focus (walk_at "rc")))
  | ((with_reducible apply evt_test); (focus (walk_at "ev")))
  | ((with_reducible apply evt_b); (focus (walk_at "ev")))
  | ((with_reducible apply evt_not); (focus (walk_at "ev")))
  | ((with_reducible apply evt_and); (focus (walk_at "ev")); (focus (intro _; walk_at "ev")))
  | ((with_reducible apply evt_or); (focus (walk_at "ev")); (focus (intro _; walk_at "ev")))
  | with_reducible exact evt_yes
  | ((with_reducible apply ev_and); (focus (walk_at "ev")); (focus (intro _; walk_at "ev")))
  | ((with_reducible apply ev_or); (focus (walk_at "ev")); (focus (intro _; walk_at "ev")))
  | ((with_reducible apply ev_not); (focus (walk_at "ev")))
  | ((with_reducible apply ev_callS); (focus (walk_at "ev")); (focus (walk_at "fn")))
  | ((with_reducible apply ev_call); (focus (walk_at "ev")); (focus (walk_at "fn")))
  | ((with_reducible apply ev_tupX); (focus (walk_at "ev")); exact Nat.le_of_ble_eq_true rfl)
  | with_reducible exact evp_none
  | ((with_reducible apply evp_some); (focus (walk_at "ev")))
  | ((with_reducible apply ev_sl); (focus (walk_at "ev")); (focus (walk_at "ev")); (focus (walk_at "ev")); (focus (walk_at "rs")))
  | ((with_reducible apply ev_un); (focus (walk_at "ev")); (focus (walk_at "ru")))
  | ((with_reducible apply ev_bmT); (focus (walk_at "ev")); (focus (walk_at "ev")); (focus (walk_at "rm")))
  | ((with_reducible apply ev_bmT0); (focus (walk_at "ev")); (focus (walk_at "rm")))
  | ((with_reducible apply evi_list); (focus (walk_at "ev")))
  | ((with_reducible apply evi_tup); (focus (walk_at "ev")))
  | ((with_reducible apply evi_str); (focus (walk_at "ev")))
  | ((with_reducible apply evi_rng1); (focus (walk_at "ev")); (focus (constructor <;> walk_at "sd")))
  | ((with_reducible apply evi_rng2); (focus (walk_at "ev")); (focus (constructor <;> walk_at "sd")); (focus (constructor <;> walk_at "sd")))
  | ((with_reducible apply Ev.of_own); walk_at "eo")
  | with_reducible assumption)
local macro_rules | `(tactic| walk_at "st") => `(tactic| repeat (first
  | (with_reducible apply sv_seq)
  | ((with_reducible apply sv_set); (focus (walk_at "ev")); (focus (walk_at "at")))
  | ((with_reducible apply sv_drop); (focus (walk_at "ev")))
  | (with_reducible apply sv_next)))
local macro_rules | `(tactic| walk_at "eq") => `(tactic| (with_reducible apply ev_eq); (focus (walk_at "ev")); rfl)
theorem sv_mid {B : Bx} {W : WX} {t u : TS} {Γ : List Sl} {P : Po} (Q : List Sl → Prop) (h : Sv B W t Γ { P with nx := Q }) (k : ∀ Γ', Q Γ' → Sv B W u Γ' P) : Sv B W (tSeq t u) Γ P :=
  sv_seq (sv_post h k (fun _ h => h) (fun _ h => h) (fun _ h => h) (fun _ _ h => h) (fun _ _ h => h))
theorem sizes60_at : ∀ p : Fin 12, ∀ j : Fin 5, (rep2 12 ([34, 4, 4, 100, 6] : List Int))[5 * p.val + j.val]? = ([34, 4, 4, 100, 6] : List Int)[j.val]? := by decide
theorem five {z : Int} {p : Nat} (hp : p < 12) : ∃ a0 a1 a2 a3 a4 : Int, cut ((digits z (rep2 12 [34, 4, 4, 100, 6])).map D.int) (some ((5 * p : Nat) : Int)) (some ((5 * p + 5 : Nat) : Int)) = [.int a0, .int a1, .int a2, .int a3, .int a4] ∧ (0 ≤ a0 ∧ a0 < 34) ∧ 0 ≤ a1 ∧ 0 ≤ a2 ∧ 0 ≤ a3 ∧ (0 ≤ a4 ∧ a4 < 6) := by
  have hsz : (rep2 12 ([34, 4, 4, 100, 6] : List Int)).length = 60 := by decide
  have hdl : (digits z (rep2 12 [34, 4, 4, 100, 6])).length = 60 := by rw [digits_len]; exact hsz
  have hdg : ∀ (j : Nat) (hj : j < 5) (s : Int), ([34, 4, 4, 100, 6] : List Int)[j]? = some s → 0 < s → 0 ≤ (digits z (rep2 12 [34, 4, 4, 100, 6])).getD (5 * p + j) 0 ∧ (digits z (rep2 12 [34, 4, 4, 100, 6])).getD (5 * p + j) 0 < s := fun j hj s e h0 => by
    obtain ⟨d, e, b⟩ := digits_lt z (rep2 12 [34, 4, 4, 100, 6]) (5 * p + j) s ((sizes60_at ⟨p, hp⟩ ⟨j, hj⟩).trans e) h0
    rw [List.getD_eq_getElem?_getD, e]
    exact b
  generalize digits z (rep2 12 [34, 4, 4, 100, 6]) = dg at *
  have hp5 : 5 * p + 5 ≤ dg.length := by omega
  refine ⟨dg[5 * p], dg[5 * p + 1], dg[5 * p + 2], dg[5 * p + 3], dg[5 * p + 4], ?_, ?_⟩
  · have := cut_sub (dg.map D.int) (5 * p) (5 * p + 5) (by rw [List.length_map]; omega) (by rw [List.length_map]; omega)
    rw [this, show 5 * p + 5 - 5 * p = 5 by omega, ← List.map_drop, ← List.map_take, take5 hp5]
    rfl
  · have gd : ∀ (j : Nat) (hj : j < 5), dg.getD (5 * p + j) 0 = dg[5 * p + j] := fun j hj => by rw [List.getD_eq_getElem?_getD, List.getElem?_eq_getElem (by omega)]; rfl
    have b0 := hdg 0 (by omega) 34 rfl (by decide)
    have b1 := hdg 1 (by omega) 4 rfl (by decide)
    have b2 := hdg 2 (by omega) 4 rfl (by decide)
    have b3 := hdg 3 (by omega) 100 rfl (by decide)
    have b4 := hdg 4 (by omega) 6 rfl (by decide)
    rw [gd 0 (by omega)] at b0
    rw [gd 1 (by omega)] at b1
    rw [gd 2 (by omega)] at b2
    rw [gd 3 (by omega)] at b3
    rw [gd 4 (by omega)] at b4
    exact ⟨b0, b1.1, b2.1, b3.1, b4⟩
theorem lf_flat {d : D} (h : flD d = true) : D.lf d = true := by cases d <;> first | rfl | cases h
theorem lf_mc {K : PySem.W.Frag} (lt : List Nat) (sec : Nat) {q : Rw} (h : RwOk q) : (mcI K lt sec q).lf = true := by
  show (true && (true && (lfs (q.map fun it => .tup (it.map .tup)) && true))) = true
  simp only [Bool.true_and, Bool.and_true]
  rw [lfs_all, List.all_map, List.all_eq_true]
  intro it hit
  show lfs (it.map .tup) = true
  rw [lfs_all, List.all_map, List.all_eq_true]
  intro os hos
  show lfs os = true
  rw [lfs_all, List.all_eq_true]
  intro d hd
  rcases ((h.2 it hit).2 os hos).2 d hd with hf | ⟨l, rfl, _, hf⟩
  · exact lf_flat hf
  · show lfs l = true
    rw [lfs_all, List.all_eq_true]
    exact fun x hx => lf_flat (List.all_eq_true.mp hf x hx)
theorem pure__law_changed_tables {mg : Str → Option Value} {w : World} (B : Bx) (T : Tx w B.K mg) (W : WX) (ds : List D) (R : Sl → Prop) (X : Xc → Prop) (h : F__law_changed_tables B.K ds R X) : Sv B W (t__law_changed_tables w B.K W) (ini N__law_changed_tables ds) { nx := fun _ => R (.dat .non), rt := R, xc := fun x _ => X x } := by
  obtain ⟨ns, lt, sec, r, style, rfl, hlt, hr, hst, hR⟩ := h
  show Sv B W (t__law_changed_tables w B.K W) [.dat (.lst (ns.map .int)), .dat (.str (tx lt)), .dat (.int sec), .dat (rwD r), .dat (.int style), .un, .un, .un, .un, .un, .un, .un, .un] _
  unfold t__law_changed_tables
  have hl3 := hlt.2.1
  refine sv_mem0 12 (.succ (.succ (.succ (.succ (.succ (.succ (.succ (.succ (.succ (.succ (.succ (.succ .zero)))))))))))) ?_
  refine sv_seq (sv_setO (w := .lst []) (by walk_at "eo") (by walk_at "at") ?_)
  let z := cellZ ns 2
  let dg := digits z (rep2 12 [34, 4, 4, 100, 6])
  refine sv_seq (sv_set (d := .lst (dg.map .int)) (ev_callS (eva_cons (ev_callS (eva_cons (by walk_at "ev") (eva_cons (by walk_at "ev") eva_nil)) ⟨ns, 2, rfl, by omega, by omega, rfl⟩) (eva_cons (ev_eq (ev_rep (evo_lstX (ds := [.int 34, .int 4, .int 4, .int 100, .int 6]) (by walk_at "ev") (Nat.le_of_ble_eq_true rfl)) ev_int (by omega) (by omega) (by decide)) (congrArg D.lst (rep2_map D.int 12 [34, 4, 4, 100, 6]))) eva_nil)) ⟨z, rep2 12 [34, 4, 4, 100, 6], rfl, by decide, by decide, rfl⟩) (by walk_at "at") ?_)
  have hfive : ∀ p, p < 12 → _ := fun p hp => five (z := z) (p := p) hp
  change ∀ p, p < 12 → ∃ a0 a1 a2 a3 a4 : Int, cut (dg.map D.int) (some ((5 * p : Nat) : Int)) (some ((5 * p + 5 : Nat) : Int)) = [.int a0, .int a1, .int a2, .int a3, .int a4] ∧ (0 ≤ a0 ∧ a0 < 34) ∧ 0 ≤ a1 ∧ 0 ≤ a2 ∧ 0 ≤ a3 ∧ (0 ≤ a4 ∧ a4 < 6) at hfive
  generalize dg = dg at *
  refine sv_seq (sv_forR (n := 6) (evi_rngN (eva_cons ev_int eva_nil) (by decide)) (fun k Γ' => ∃ (rs : List Rw) (M : Mem) (c7 c8 c9 c10 c11 : Sl), rs.length ≤ k ∧ (∀ q ∈ rs, RwOk q ∧ wrongAt (1 + lt.length) sec q = none) ∧ MLst M ∧ Γ' = [.dat (.lst (ns.map .int)), .dat (.str (tx lt)), .dat (.int sec), .dat (rwD r), .dat (.int style), .own (.lst (rs.map fun q => .lst [mcD B.K lt sec q, rwD q])), .dat (.lst (dg.map .int)), c7, c8, c9, c10, c11, .mem M]) ⟨[], mem0, _, _, _, _, _, Nat.le_refl _, (fun _ h => nomatch h), fun a w e => (nomatch e), rfl⟩ ?_ ?_)
  · rintro Γ' ⟨rs, M, c7, c8, c9, c10, c11, hrl, hrs, hml, rfl⟩
    exact sv_retOv rfl (hR rs hrs hrl)
  · rintro k Γ' hk ⟨rs, M, c7, c8, c9, c10, c11, hrl, hrs, hml, rfl⟩
    refine ⟨_, evg_name (by walk_at "at"), ?_⟩
    obtain ⟨a0, a1, a2, a3, a4, e5, h0, h1, h2, h3, h4⟩ := hfive (2 * k) (by omega)
    refine sv_seq (sv_setN (evdn_callS (eva_cons (ev_var rfl) (eva_cons (ev_eq (ev_sl (ev_var rfl) (evp_some (ev_eq (by walk_at "ev") (congrArg D.int (show 10 * ((k : Nat) : Int) = ((5 * (2 * k) : Nat) : Int) by omega)))) (evp_some (ev_eq (by walk_at "ev") (congrArg D.int (show 10 * ((k : Nat) : Int) + 5 = ((5 * (2 * k) + 5 : Nat) : Int) by omega)))) rs_slL) (congrArg D.lst e5)) (eva_cons (ev_var rfl) eva_nil))) ⟨r, a0, a1, a2, a3, a4, sec, 4, 4, 100, rfl, hr, by decide, by decide, by decide, h0, h1, h2, h3, h4, fun q1 hq1 => ⟨_, rfl, _, by walk_at "at", ?_⟩⟩))
    refine sv_mid (fun Γ' => ∃ q : Rw, RwOk q ∧ Γ' = [.dat (.lst (ns.map .int)), .dat (.str (tx lt)), .dat (.int sec), .dat (rwD r), .dat (.int style), .own (.lst (rs.map fun q => .lst [mcD B.K lt sec q, rwD q])), .dat (.lst (dg.map .int)), .dat (.int k), .dat (rwD q), c9, c10, c11, .mem M]) ?_ ?_
    · refine sv_if (by walk_at "ev") (fun _ => ?_) fun _ => sv_next ⟨q1, hq1.ok (by decide) (by decide) (by decide), rfl⟩
      obtain ⟨a0, a1, a2, a3, a4, e5, h0, h1, h2, h3, h4⟩ := hfive (2 * k + 1) (by omega)
      exact sv_setN (evdn_callS (eva_cons (ev_var rfl) (eva_cons (ev_eq (ev_sl (ev_var rfl) (evp_some (ev_eq (by walk_at "ev") (congrArg D.int (show 10 * ((k : Nat) : Int) + 5 = ((5 * (2 * k + 1) : Nat) : Int) by omega)))) (evp_some (ev_eq (by walk_at "ev") (congrArg D.int (show 10 * ((k : Nat) : Int) + 10 = ((5 * (2 * k + 1) + 5 : Nat) : Int) by omega)))) rs_slL) (congrArg D.lst e5)) (eva_cons (ev_var rfl) eva_nil))) ⟨q1, a0, a1, a2, a3, a4, sec, 5, 5, 101, rfl, hq1, by decide, by decide, by decide, h0, h1, h2, h3, h4, fun q2 hq2 => ⟨_, rfl, _, by walk_at "at", q2, hq2.ok (by decide) (by decide) (by decide), rfl⟩⟩)
    · rintro Γ' ⟨q, hq, rfl⟩
      refine sv_seq (sv_set (d := optN (wrongAt (1 + lt.length) sec q)) (ev_callS (eva_cons (ev_var rfl) (eva_cons (ev_eq (by walk_at "ev") (congrArg D.int (show 1 + ((lt.length : Nat) : Int) = ((1 + lt.length : Nat) : Int) by omega))) (eva_cons (ev_var rfl) eva_nil))) ⟨q, 1 + lt.length, sec, rfl, hq, rfl⟩) (by walk_at "at") ?_)
      refine sv_seq (sv_setE (eve_callS (m := 12) rfl (eva_cons (ev_var rfl) (eva_cons (ev_eq (by walk_at "ev") (congrArg D.int (show (((style : Nat) : Int) + (k : Nat)) % 8 = (((style + k) % 8 : Nat) : Int) by omega))) eva_nil)) ⟨q, (style + k) % 8, rfl, hq, by omega, hml, fun a M1 hT1 hv1 => ⟨_, .succ (.succ (.succ (.succ (.succ (.succ (.succ (.succ (.succ (.succ .zero))))))))), ?_⟩⟩))
      clear hml
      have hml := hT1.1
      have hv0 : hv ((style + k) % 8) q = .lst (q.map fun it => hvS (decide ((style + k) % 8 / 4 = 1)) (it.map fun os => hvS (decide ((style + k) % 8 / 2 % 2 = 1)) (os.map (hvO ((style + k) % 8))))) := rfl
      have hok : okD 6 (hv ((style + k) % 8) q) = true := ok_hv hq
      have hfz : frzD 6 (hv ((style + k) % 8) q) = tbD q := frz_hv hq
      refine sv_mid (fun Γ' => ∃ d d' : D, View M1 d d' ∧ okD 6 d' = true ∧ frzD 6 d' = tbD q ∧ Γ' = [.dat (.lst (ns.map .int)), .dat (.str (tx lt)), .dat (.int sec), .dat (rwD r), .dat (.int style), .own (.lst (rs.map fun q => .lst [mcD B.K lt sec q, rwD q])), .dat (.lst (dg.map .int)), .dat (.int k), .dat (rwD q), .dat (optN (wrongAt (1 + lt.length) sec q)), .dat d, c11, .mem M1]) ?_ ?_
      · refine sv_if (by walk_at "ev") (fun _ => ?_) fun _ => sv_next ⟨.ref a, _, hv1, hok, hfz, rfl⟩
        rw [hv0] at hv1 hok hfz
        obtain ⟨ds, hMa, V⟩ := ref_view hv1
        exact sv_set (d := .tup ds) (ev_tupleM (m := 12) rfl (eva_cons (ev_var rfl) eva_nil) rfl hMa) (.succ (.succ (.succ (.succ (.succ (.succ (.succ (.succ (.succ (.succ .zero)))))))))) ⟨.tup ds, .tup _, .tupD V, hok, hfz, rfl⟩
      · rintro Γ' ⟨d, d', V, hok', hfz', rfl⟩
        refine sv_seq (sv_setO (w := toldD lt (wrongAt (1 + lt.length) sec q)) (evo_lendL (m := 12) (Γ' := [.dat (.lst (ns.map .int)), .dat (.str (tx lt)), .dat (.int sec), .dat (rwD r), .dat (.int style), .own (.lst (rs.map fun q => .lst [mcD B.K lt sec q, rwD q])), .dat (.lst (dg.map .int)), .dat (.int k), .dat (rwD q), .dat (optN (wrongAt (1 + lt.length) sec q)), .dat d', .un, .mem mem0]) rfl hml (.cons (.dat .rfl) (.cons (.dat .rfl) (.cons (.dat .rfl) (.cons (.dat .rfl) (.cons (.dat .rfl) (.cons .own (.cons (.dat .rfl) (.cons (.dat .rfl) (.cons (.dat .rfl) (.cons (.dat .rfl) (.cons (.dat V) (.cons .any (.cons .mem .nil))))))))))))) (by cases wrongAt (1 + lt.length) sec q <;> rfl) (evo_callS (eva_cons (ev_var rfl) (eva_cons (ev_var rfl) (eva_cons (ev_var rfl) eva_nil))) ⟨lt, sec, d', rfl, by omega, fun h => absurd hlt h, fun _ => ⟨q, hok', hfz', hq, rfl⟩⟩)) (by walk_at "at") ?_)
        cases hw : wrongAt (1 + lt.length) sec q with
        | none =>
          refine sv_freeze 11 (ds := [.str (tx [108, 101, 116]), .int 0]) rfl (by walk_at "at") ?_
          refine sv_if (p := true) (evt_test (ev_op (b := .non) (ev_var rfl) ev_non rv_isN')) (fun _ => ?_) fun h => nomatch h
          have x0 : atI [D.str (tx [108, 101, 116]), .int 0] (0 : Int) = some (.str (tx [108, 101, 116])) := rfl
          refine sv_seq (sv_if (p := false) (evt_eq (evt_test (ev_op (ev_op (ev_var rfl) ev_int (rv_ixL x0)) ev_str rv_neT)) (by rw [decide_eq_true rfl]; rfl)) (fun h => nomatch h) fun _ => sv_next ?_)
          refine sv_seq (sv_setE (eve_callS (m := 12) rfl (eva_cons (ev_var rfl) (eva_cons (ev_eq (by walk_at "ev") (congrArg D.int (show (((style : Nat) : Int) + 3 * (k : Nat)) % 8 = (((style + 3 * k) % 8 : Nat) : Int) by omega))) eva_nil)) ⟨q, (style + 3 * k) % 8, rfl, hq, by omega, hml, fun a2 M2 hT2 hv2 => ⟨_, .succ (.succ (.succ (.succ (.succ (.succ (.succ (.succ (.succ (.succ .zero))))))))), ?_⟩⟩))
          refine sv_seq (sv_app (d := .lst [mcD B.K lt sec q, rwD q]) (i := 5) rfl (Ev.of_own (evo_lstX (eva_cons (Ev.of_ownI (fs := mcFs lt sec q) (oa := none) (evo_lendL (m := 12) (Γ' := [.dat (.lst (ns.map .int)), .dat (.str (tx lt)), .dat (.int sec), .dat (rwD r), .dat (.int style), .own (.lst (rs.map fun q => .lst [mcD B.K lt sec q, rwD q])), .dat (.lst (dg.map .int)), .dat (.int k), .dat (rwD q), .un, .dat (hv ((style + 3 * k) % 8) q), .un, .mem mem0]) rfl hT2.1 (.cons (.dat .rfl) (.cons (.dat .rfl) (.cons (.dat .rfl) (.cons (.dat .rfl) (.cons (.dat .rfl) (.cons .own (.cons (.dat .rfl) (.cons (.dat .rfl) (.cons (.dat .rfl) (.cons .any (.cons (.dat hv2) (.cons .any (.cons .mem .nil))))))))))))) (lf_mc lt sec hq) (evo_mk (eva_cons (ev_var rfl) (eva_cons (ev_var rfl) (eva_cons (ev_var rfl) eva_nil))) ⟨lt, sec, _, rfl, by omega, fun h => absurd hlt h, fun _ => ⟨q, ok_hv hq, frz_hv hq, hq, fun _ => rfl, fun s h => by rw [hw] at h; cases h⟩⟩))) (eva_cons (ev_var rfl) eva_nil)) (Nat.le_of_ble_eq_true rfl))) (by rw [List.length_map]; omega) (by walk_at "at") ?_)
          refine sv_dropE (eve_callS (m := 12) rfl (eva_cons (ev_var rfl) eva_nil) ⟨a2, rfl, hT2, fun M3 hml3 => ?_⟩)
          refine ⟨rs ++ [q], M3, _, _, _, _, _, by rw [List.length_append, List.length_singleton]; omega, fun q' hq' => ?_, hml3, by rw [List.map_append]; rfl⟩
          rcases List.mem_append.mp hq' with h | h
          · exact hrs q' h
          · rw [List.mem_singleton] at h; subst h; exact ⟨hq, hw⟩
        | some s =>
          refine sv_freeze 11 (ds := [.str (tx [115, 116, 97, 116, 101]), .int s]) rfl (by walk_at "at") ?_
          refine sv_if (p := false) (evt_test (ev_op (b := .non) (ev_var rfl) ev_non rv_isN')) (fun h => nomatch h) fun _ => ?_
          have x0 : atI [D.str (tx [115, 116, 97, 116, 101]), .int (s : Nat)] (0 : Int) = some (.str (tx [115, 116, 97, 116, 101])) := rfl
          have x1 : atI [D.str (tx [115, 116, 97, 116, 101]), .int (s : Nat)] (1 : Int) = some (.int (s : Nat)) := rfl
          exact sv_if (p := false) (evt_eq (evt_or (p := false) (evt_eq (evt_test (ev_op (ev_op (ev_var rfl) ev_int (rv_ixL x0)) ev_str rv_neT)) (by rw [decide_eq_true rfl]; rfl)) fun _ => evt_or (p := false) (evt_eq (evt_not (p := true) (evt_b (ev_callS (eva_cons (ev_op (ev_var rfl) ev_int (rv_ixL x1)) eva_nil) ⟨_, rfl, rfl, rfl⟩))) rfl) fun _ => evt_test (ev_op (b := .int s) (ev_op (ev_var rfl) ev_int (rv_ixL x1)) (ev_var rfl) rv_neI)) (by rw [decide_eq_true rfl]; rfl)) (fun h => nomatch h) fun _ => sv_next ⟨rs, M1, _, _, _, _, _, by omega, hrs, hml, rfl⟩

end L

namespace L
open PySem PySem.Spec PyProof.Rows L2 Z
local macro_rules | `(tactic| walk_at "at") => `(tactic| first | with_reducible exact SetAt.zero | ((with_reducible apply SetAt.succ); walk_at "at"))
local macro_rules | `(tactic| walk_at "sd") => `(tactic| first | (with_reducible assumption) | omega | (simp only [rep_length, List.length_append, List.length_cons, List.length_nil, List.length_map, List.length_replicate, List.length_range, List.length_take, List.length_reverse] <;> omega) | decide | exact Nat.le_of_ble_eq_true rfl)
local macro_rules | `(tactic| walk_at "cm") => `(tactic| first | (with_reducible assumption) | (refine cmul_s ?_ ?_ ?_ ?_ <;> first | omega | decide))
local macro_rules | `(tactic| walk_at "rv") => `(tactic| first
  | with_reducible exact rv_add | ((with_reducible apply rv_addT); walk_at "sd") | ((with_reducible apply rv_addL); walk_at "sd") | ((with_reducible apply rv_addU); walk_at "sd")
  | with_reducible exact rv_sub | ((with_reducible apply rv_mul); walk_at "cm") | ((with_reducible apply rv_mulT) <;> walk_at "sd")
  | ((with_reducible apply rv_div); first | assumption | exact cdiv_s (by walk_at "sd") (by walk_at "sd")) | ((with_reducible apply rv_mod); walk_at "sd") | ((with_reducible apply rv_pow); exact ⟨by decide, by decide, by decide⟩)
  | with_reducible exact rv_lt | with_reducible exact rv_le | with_reducible exact rv_gt | with_reducible exact rv_ge
  | with_reducible exact rv_eqI | with_reducible exact rv_eqT | with_reducible exact rv_eqB | with_reducible exact rv_neI | with_reducible exact rv_neT | with_reducible exact rv_neB
  | ((with_reducible apply rv_ixL); first | with_reducible assumption | exact rfl) | ((with_reducible apply rv_ixU); first | with_reducible assumption | exact rfl) | ((with_reducible apply rv_ixT); (focus (first | with_reducible assumption | exact rfl)); walk_at "sd")
  | with_reducible exact rv_isN | with_reducible exact rv_isN' | with_reducible exact rv_notN'
  | with_reducible exact rv_inT | with_reducible exact rv_ninT | with_reducible exact rv_inTs | with_reducible exact rv_ninTs | with_reducible assumption)
local macro_rules | `(tactic| walk_at "rc") => `(tactic| first | with_reducible exact rc_int | with_reducible exact rc_intB | with_reducible exact rc_lenL | with_reducible exact rc_lenU | ((with_reducible apply rc_lenT); walk_at "sd") | with_reducible exact rc_min | with_reducible exact rc_tupleL | with_reducible exact rc_tupleU | with_reducible exact rc_listL | with_reducible exact rc_listU | with_reducible exact rc_max | ((with_reducible apply rc_isi); (focus (exact rfl)); first | with_reducible exact kitT | with_reducible exact kit_NoneType_int | with_reducible exact kit_NoneType_bool | with_reducible exact kit_NoneType_str | with_reducible exact kit_NoneType_list | with_reducible exact kit_NoneType_tuple | with_reducible exact kit_bool_int | with_reducible exact kit_bool_bool | with_reducible exact kit_bool_str | with_reducible exact kit_bool_list | with_reducible exact kit_bool_tuple | with_reducible exact kit_int_int | with_reducible exact kit_int_bool | with_reducible exact kit_int_str | with_reducible exact kit_int_list | with_reducible exact kit_int_tuple | with_reducible exact kit_str_int | with_reducible exact kit_str_bool | with_reducible exact kit_str_str | with_reducible exact kit_str_list | with_reducible exact kit_str_tuple | with_reducible exact kit_list_int | with_reducible exact kit_list_bool | with_reducible exact kit_list_str | with_reducible exact kit_list_list | with_reducible exact kit_list_tuple | with_reducible exact kit_tuple_int | with_reducible exact kit_tuple_bool | with_reducible exact kit_tuple_str | with_reducible exact kit_tuple_list | with_reducible exact kit_tuple_tuple | assumption | rfl) | with_reducible assumption)
local macro_rules | `(tactic| walk_at "rs") => `(tactic| first | with_reducible exact rs_slL | with_reducible exact rs_slU | ((with_reducible apply rs_slT); walk_at "sd"))
local macro_rules | `(tactic| walk_at "ru") => `(tactic| first | ((with_reducible apply ru_rev); walk_at "sd") | with_reducible exact ru_neg)
local macro_rules | `(tactic| walk_at "rm") => `(tactic| first | with_reducible exact rm_count | with_reducible assumption)
local macro_rules | `(tactic| walk_at "eo") => `(tactic| first
  | ((with_reducible apply evo_lstX); (focus (walk_at "ev")); exact Nat.le_of_ble_eq_true rfl)
  | ((with_reducible apply evo_callS); (focus (walk_at "ev")); (focus (walk_at "fn")))
  | ((with_reducible apply evo_addL rfl); (focus (walk_at "ev")); (focus (walk_at "ev")); walk_at "sd")
  | ((with_reducible apply evo_listL rfl); walk_at "ev") | ((with_reducible apply evo_listU rfl); walk_at "ev")
  | with_reducible assumption)
local macro_rules | `(tactic| walk_at "ev") => `(tactic| first
  | (with_reducible assumption)
  | ((with_reducible apply ev_var); exact rfl)
  | with_reducible exact ev_int | with_reducible exact ev_str | with_reducible exact ev_bl | with_reducible exact ev_non | with_reducible exact ev_ty | with_reducible exact ev_ref
  | with_reducible exact eva_nil
  | ((with_reducible apply eva_cons); (focus (walk_at "ev")); (focus (walk_at "ev")))
  | ((with_reducible apply ev_op); (focus (walk_at "ev")); (focus (walk_at "ev")); (focus (walk_at "rv")))
  | ((with_reducible apply ev_cb); (focus (walk_at "ev")); (focus (walk_at "rc")))
  | ((with_reducible apply evt_test); (focus (walk_at "ev")))
  | ((with_reducible apply evt_b); (focus (walk_at "ev")))
  | ((with_reducible apply evt_not); (focus (walk_at "ev")))
  | ((with_reducible apply evt_and); (focus (walk_at "ev")); (focus (intro _; walk_at "ev")))
  | ((with_reducible apply evt_or); (focus (walk_at "ev")); (focus (intro _; walk_at "ev")))
  | with_reducible exact evt_yes
  | ((with_reducible apply ev_and); (focus (walk_at "ev")); (focus (intro _; walk_at "ev")))
  | ((with_reducible apply ev_or); (focus (walk_at "ev")); (focus (intro _; walk_at "ev")))
  | ((with_reducible apply ev_not); (focus (walk_at "ev")))
  | ((with_reducible apply ev_callS); (focus (walk_at "ev")); (focus (walk_at "fn")))
  | ((with_reducible apply ev_call); (focus (walk_at "ev")); (focus (walk_at "fn")))
  | ((with_reducible apply ev_tupX); (focus (walk_at "ev")); exact Nat.le_of_ble_eq_true rfl)
  | with_reducible exact evp_none
  | ((with_reducible apply evp_some); (focus (walk_at "ev")))
  | ((with_reducible apply ev_sl); (focus (walk_at "ev")); (focus (walk_at "ev")); (focus (walk_at "ev")); (focus (walk_at "rs")))
  | ((with_reducible apply ev_un); (focus (walk_at "ev")); (focus (walk_at "ru")))
  | ((with_reducible apply ev_bmT); (focus (walk_at "ev")); (focus (walk_at "ev")); (focus (walk_at "rm")))
  | ((with_reducible apply ev_bmT0); (focus (walk_at "ev")); (focus (walk_at "rm")))
  | ((with_reducible apply evi_list); (focus (walk_at "ev")))
  | ((with_reducible apply evi_tup); (focus (walk_at "ev")))
  | ((with_reducible apply evi_str); (focus (walk_at "ev")))
  | ((with_reducible apply evi_rng1); (focus (walk_at "ev")); (focus (constructor <;> walk_at "sd")))
  | ((with_reducible apply evi_rng2); (focus (walk_at "ev")); (focus (constructor <;> walk_at "sd")); (focus (constructor <;> walk_at "sd")))
  | ((with_reducible apply Ev.of_own); walk_at "eo")
  | with_reducible assumption)
local macro_rules | `(tactic| walk_at "st") => `(tactic| repeat (first
  | (with_reducible apply sv_seq)
  | ((with_reducible apply sv_set); (focus (walk_at "ev")); (focus (walk_at "at")))
  | ((with_reducible apply sv_drop); (focus (walk_at "ev")))
  | (with_reducible apply sv_next)))
local macro_rules | `(tactic| walk_at "eq") => `(tactic| (with_reducible apply ev_eq); (focus (walk_at "ev")); rfl)
theorem list11 {α : Type} {r : List α} (h : r.length = 11) : ∃ a b c d e f g i j k l, r = [a, b, c, d, e, f, g, i, j, k, l] := by
  rcases r with _ | ⟨a, _ | ⟨b, _ | ⟨c, _ | ⟨d, _ | ⟨e, _ | ⟨f, _ | ⟨g, _ | ⟨i, _ | ⟨j, _ | ⟨k, _ | ⟨l, _ | ⟨x, r⟩⟩⟩⟩⟩⟩⟩⟩⟩⟩⟩⟩ <;> simp at h
  exact ⟨a, b, c, d, e, f, g, i, j, k, l, rfl⟩
theorem dig_rng {z : Int} {ss dg : List Int} (e : digits z ss = dg) (i : Nat) (s : Int) (h : ss[i]? = some s) (h0 : 0 < s) : 0 ≤ dg.getD i 0 ∧ dg.getD i 0 < s := by
  obtain ⟨d, e2, b⟩ := digits_lt z ss i s h h0
  rw [e] at e2
  rw [List.getD_eq_getElem?_getD, e2]
  exact b
theorem join_ones : ∀ x : List Nat, joinL [] (x.map fun c => [c]) = x
  | [] => rfl
  | [c] => rfl
  | c :: d :: r => by
    show [c] ++ [] ++ joinL [] ([d] :: List.map (fun c => [c]) r) = _
    have := join_ones (d :: r)
    rw [show joinL [] ([d] :: List.map (fun c => [c]) r) = d :: r from this]
    rfl
theorem text_join {B : Bx} {Γ : List Sl} {wi : TI} {te : TE} {i : Nat} (n : Nat) (cf : Nat → Nat) (hn : n ≤ 1000) (hi : EvI B wi Γ ((List.range n).map fun k => .int (k : Nat))) (hlen : i < Γ.length) (hs : ∀ k, k < n → Ev B te (Γ.set i (.dat (.int (k : Nat)))) (.str (tx [cf k]))) :
    Ev B (tBM B.K "str" (zJoin B.K) (tC (.str (tx []))) (tCons (tLc wi (gName i) tYes te [i]) tNil)) Γ (.str (tx ((List.range n).map cf))) := by
  have h1 := evo_map1 (B := B) (fun k : Nat => D.int (k : Nat)) (List.range n) (fun k => .str (tx [cf k])) hi hlen (by rw [List.length_range]; omega) fun k hk => hs k (List.mem_range.mp hk)
  have e1 : (List.range n).map (fun k => D.str (tx [cf k])) = (((List.range n).map cf).map fun c => [c]).map fun x => D.str (tx x) := by rw [List.map_map, List.map_map]; rfl
  rw [e1] at h1
  have h2 := ev_bmT (r := zJoin B.K) (ev_str (B := B) (Γ := Γ) (x := tx [])) (eva_cons (Ev.of_own h1) eva_nil) (rm_join (xs := ((List.range n).map cf).map fun c => [c]) (by
    rw [List.map_map]
    have : (((List.range n).map cf).map (List.length ∘ fun c => [c])).sum = n := by
      rw [show (List.length ∘ fun c : Nat => [c]) = fun _ => 1 from rfl, List.map_map]
      have : ∀ l : List Nat, (l.map fun _ => 1).sum = l.length := fun l => by
        induction l with
        | nil => rfl
        | cons x l ih => rw [List.map_cons, List.sum_cons, ih, List.length_cons]; omega
      exact (this _).trans List.length_range
    rw [this]; simp; omega))
  rwa [join_ones] at h2
theorem sec_at {s5 s6 : Int} (h5 : 0 ≤ s5 ∧ s5 < 8) (h6 : 0 ≤ s6 ∧ s6 < 100) : ∃ x : Nat, atI [D.int 2, .int 3, .int 2, .int 1, .int 4, .int 3, .int 5, .int (1 + s6)] s5 = some (.int (x : Nat)) ∧ 1 ≤ x ∧ x ≤ 100 := by
  have : s5 = 0 ∨ s5 = 1 ∨ s5 = 2 ∨ s5 = 3 ∨ s5 = 4 ∨ s5 = 5 ∨ s5 = 6 ∨ s5 = 7 := by omega
  rcases this with rfl | rfl | rfl | rfl | rfl | rfl | rfl | rfl
  · exact ⟨2, rfl, by decide, by decide⟩
  · exact ⟨3, rfl, by decide, by decide⟩
  · exact ⟨2, rfl, by decide, by decide⟩
  · exact ⟨1, rfl, by decide, by decide⟩
  · exact ⟨4, rfl, by decide, by decide⟩
  · exact ⟨3, rfl, by decide, by decide⟩
  · exact ⟨5, rfl, by decide, by decide⟩
  · exact ⟨(1 + s6).toNat, by rw [Int.toNat_of_nonneg (by omega)]; rfl, by omega, by omega⟩
def szs : List Int := [6, 41, 8, 401] ++ rep2 40 [6]
theorem szs_len : szs.length = 44 := by decide
theorem szs_pos : ∀ s ∈ szs, 0 < s ∧ s < 2 ^ 100 := by decide
theorem pure_law {mg : Str → Option Value} {w : World} (B : Bx) (T : Tx w B.K mg) (W : WX) (ds : List D) (R : Sl → Prop) (X : Xc → Prop) (h : F_law B.K ds R X) : Sv B W (t_law w B.K W) (ini N_law ds) { nx := fun _ => R (.dat .non), rt := R, xc := fun x _ => X x } := by
  obtain ⟨ns, rfl, hns, hR⟩ := h
  show Sv B W (t_law w B.K W) [.dat (.lst (ns.map .int)), .un, .un, .un, .un, .un, .un, .un, .un, .un, .un, .un, .un, .un, .un, .un, .un] _
  unfold t_law
  refine sv_mem0 16 (.succ (.succ (.succ (.succ (.succ (.succ (.succ (.succ (.succ (.succ (.succ (.succ (.succ (.succ (.succ (.succ .zero)))))))))))))))) ?_
  obtain ⟨s0, s1, s2, s3, s4, s5, s6, s7, s8, s9, s10, es⟩ := list11 (r := digits (cellZ ns 0) [8, 8, 8, 8, 4, 8, 100, 8, 16, 12, 5001]) (by rw [digits_len]; rfl)
  have r1 : 0 ≤ s1 ∧ s1 < 8 := dig_rng es 1 8 rfl (by decide)
  have r2 : 0 ≤ s2 ∧ s2 < 8 := dig_rng es 2 8 rfl (by decide)
  have r3 : 0 ≤ s3 ∧ s3 < 8 := dig_rng es 3 8 rfl (by decide)
  have r4 : 0 ≤ s4 ∧ s4 < 4 := dig_rng es 4 4 rfl (by decide)
  have r5 : 0 ≤ s5 ∧ s5 < 8 := dig_rng es 5 8 rfl (by decide)
  have r6 : 0 ≤ s6 ∧ s6 < 100 := dig_rng es 6 100 rfl (by decide)
  have r7 : 0 ≤ s7 ∧ s7 < 8 := dig_rng es 7 8 rfl (by decide)
  have r8 : 0 ≤ s8 ∧ s8 < 16 := dig_rng es 8 16 rfl (by decide)
  have r9 : 0 ≤ s9 ∧ s9 < 12 := dig_rng es 9 12 rfl (by decide)
  have r10 : 0 ≤ s10 ∧ s10 < 5001 := dig_rng es 10 5001 rfl (by decide)
  refine sv_seq (sv_set (d := .lst [.int s0, .int s1, .int s2, .int s3, .int s4, .int s5, .int s6, .int s7, .int s8, .int s9, .int s10]) (ev_callS (eva_cons (ev_callS (eva_cons (by walk_at "ev") (eva_cons (by walk_at "ev") eva_nil)) ⟨ns, 0, rfl, by omega, by omega, rfl⟩) (eva_cons (Ev.of_own (evo_lstX (ds := ([8, 8, 8, 8, 4, 8, 100, 8, 16, 12, 5001] : List Int).map D.int) (eva_cons ev_int (eva_cons ev_int (eva_cons ev_int (eva_cons ev_int (eva_cons ev_int (eva_cons ev_int (eva_cons ev_int (eva_cons ev_int (eva_cons ev_int (eva_cons ev_int (eva_cons ev_int eva_nil))))))))))) (by decide))) eva_nil)) ⟨cellZ ns 0, [8, 8, 8, 8, 4, 8, 100, 8, 16, 12, 5001], rfl, by decide, by decide, by rw [es]; rfl⟩) (by walk_at "at") ?_)
  have i4 : atI [D.int s0, .int s1, .int s2, .int s3, .int s4, .int s5, .int s6, .int s7, .int s8, .int s9, .int s10] (4 : Int) = some (.int s4) := rfl
  have i5 : atI [D.int s0, .int s1, .int s2, .int s3, .int s4, .int s5, .int s6, .int s7, .int s8, .int s9, .int s10] (5 : Int) = some (.int s5) := rfl
  have i6 : atI [D.int s0, .int s1, .int s2, .int s3, .int s4, .int s5, .int s6, .int s7, .int s8, .int s9, .int s10] (6 : Int) = some (.int s6) := rfl
  have i7 : atI [D.int s0, .int s1, .int s2, .int s3, .int s4, .int s5, .int s6, .int s7, .int s8, .int s9, .int s10] (7 : Int) = some (.int s7) := rfl
  have i8 : atI [D.int s0, .int s1, .int s2, .int s3, .int s4, .int s5, .int s6, .int s7, .int s8, .int s9, .int s10] (8 : Int) = some (.int s8) := rfl
  have i9 : atI [D.int s0, .int s1, .int s2, .int s3, .int s4, .int s5, .int s6, .int s7, .int s8, .int s9, .int s10] (9 : Int) = some (.int s9) := rfl
  have i10 : atI [D.int s0, .int s1, .int s2, .int s3, .int s4, .int s5, .int s6, .int s7, .int s8, .int s9, .int s10] (10 : Int) = some (.int s10) := rfl
  have hlt : Right (lettersOf s0 s1 s2 s3) := lettersOf_right r1 r2 r3
  refine sv_seq (sv_set (d := .str (tx (lettersOf s0 s1 s2 s3))) (ev_callS (eva_cons (ev_var rfl) eva_nil) ⟨s0, s1, s2, s3, _, rfl, r1, r2, r3, rfl⟩) (by walk_at "at") ?_)
  generalize lettersOf s0 s1 s2 s3 = lt at *
  have hl1 := hlt.1
  have hl3 := hlt.2.1
  generalize hsh : [D.int s0, .int s1, .int s2, .int s3, .int s4, .int s5, .int s6, .int s7, .int s8, .int s9, .int s10] = sh at *
  refine sv_seq (sv_set (d := .int (1 + s4)) (ev_op ev_int (ev_op (ev_var rfl) ev_int (rv_ixL i4)) rv_add) (by walk_at "at") ?_)
  obtain ⟨sec, hsec, hs1, hs100⟩ := sec_at r5 r6
  refine sv_seq (sv_set (d := .int sec) (ev_op (Ev.of_own (evo_lstX (ds := [.int 2, .int 3, .int 2, .int 1, .int 4, .int 3, .int 5, .int (1 + s6)]) (eva_cons ev_int (eva_cons ev_int (eva_cons ev_int (eva_cons ev_int (eva_cons ev_int (eva_cons ev_int (eva_cons ev_int (eva_cons (ev_op ev_int (ev_op (ev_var rfl) ev_int (rv_ixL i6)) rv_add) eva_nil)))))))) (Nat.le_of_ble_eq_true rfl))) (ev_op (ev_var rfl) ev_int (rv_ixL i5)) (rv_ixL hsec)) (by walk_at "at") ?_)
  refine sv_mid (fun Γ' => ∃ st : Nat, 1 ≤ st ∧ st ≤ 4 ∧ Γ' = [.dat (.lst (ns.map .int)), .dat (.lst sh), .dat (.str (tx lt)), .dat (.int st), .dat (.int sec), .un, .un, .un, .un, .un, .un, .un, .un, .un, .un, .un, .mem mem0]) ?_ ?_
  · refine sv_if (evt_and (by walk_at "ev") fun _ => by walk_at "ev") (fun _ => ?_) fun _ => ?_
    · exact sv_set (d := .int ((2 : Nat) : Int)) ev_int (by walk_at "at") ⟨2, by decide, by decide, rfl⟩
    · exact sv_next ⟨(1 + s4).toNat, by omega, by omega, by rw [Int.toNat_of_nonneg (by omega)]⟩
  rintro Γ' ⟨st, hst1, hst4, rfl⟩
  refine sv_seq (sv_setN (evdn_callS (eva_cons (ev_var rfl) (eva_cons ev_int (eva_cons (ev_eq (by walk_at "ev") (congrArg D.int (show 1 + ((lt.length : Nat) : Int) = ((1 + lt.length : Nat) : Int) by omega))) (eva_cons (ev_var rfl) (eva_cons (ev_var rfl) eva_nil))))) ⟨ns, 1 + lt.length, sec, st, rfl, by omega, by omega, by omega, by omega, by omega, fun r ht => ⟨_, rfl, _, by walk_at "at", ?_⟩⟩))
  have hrw : RwOk r := tab_rw ht (by omega) (by omega) (by omega)
  have hrb : RwB 4 4 100 r := ⟨by rw [ht.1]; omega, fun it hit => ⟨by rw [(ht.2 it hit).1]; omega, fun os hos => ⟨by rw [((ht.2 it hit).2 os hos).1]; omega, ((hrw.2 it hit).2 os hos).2⟩⟩⟩
  have hwn : wrongAt (1 + lt.length) sec r = none := wrong_of_tab (by omega) ht
  have hs7 : s7 = ((s7.toNat : Nat) : Int) := by omega
  have hs9 : s9 = ((s9.toNat : Nat) : Int) := by omega
  refine sv_seq (sv_setE (eve_callS (m := 16) rfl (eva_cons (ev_var rfl) (eva_cons (ev_eq (ev_op (ev_var rfl) ev_int (rv_ixL i7)) (congrArg D.int hs7)) eva_nil)) ⟨r, s7.toNat, rfl, hrw, by omega, fun a w e => (nomatch e), fun a M hT hv1 => ⟨_, .succ (.succ (.succ (.succ (.succ (.succ .zero))))), ?_⟩⟩))
  refine sv_seq (sv_setO (w := mcI B.K lt sec r) (evo_lendL (m := 16) (Γ' := [.dat (.lst (ns.map .int)), .dat (.lst sh), .dat (.str (tx lt)), .dat (.int st), .dat (.int sec), .dat (rwD r), .dat (hv s7.toNat r), .un, .un, .un, .un, .un, .un, .un, .un, .un, .mem mem0]) rfl hT.1 (.cons (.dat .rfl) (.cons (.dat .rfl) (.cons (.dat .rfl) (.cons (.dat .rfl) (.cons (.dat .rfl) (.cons (.dat .rfl) (.cons (.dat hv1) (.cons .any (.cons .any (.cons .any (.cons .any (.cons .any (.cons .any (.cons .any (.cons .any (.cons .any (.cons .mem .nil))))))))))))))))) (lf_mc lt sec hrw) (evo_mk (eva_cons (ev_var rfl) (eva_cons (ev_var rfl) (eva_cons (ev_var rfl) eva_nil))) ⟨lt, sec, _, rfl, by omega, fun h => absurd hlt h, fun _ => ⟨r, ok_hv hrw, frz_hv hrw, hrw, fun _ => rfl, fun s h => by rw [hwn] at h; cases h⟩⟩)) (.succ (.succ (.succ (.succ (.succ (.succ (.succ .zero))))))) ?_)
  refine sv_freezeI 7 (C := He.ga B.K "TwoTape") (fs := mcFs lt sec r) (oa := none) rfl (.succ (.succ (.succ (.succ (.succ (.succ (.succ .zero))))))) ?_
  refine sv_seq (sv_dropE (eve_callS (m := 16) rfl (eva_cons (ev_var rfl) eva_nil) ⟨a, rfl, hT, fun M' hml' => ?_⟩))
  show Sv B W _ [.dat (.lst (ns.map .int)), .dat (.lst sh), .dat (.str (tx lt)), .dat (.int st), .dat (.int sec), .dat (rwD r), .dat (.ref a), .dat (mcD B.K lt sec r), .un, .un, .un, .un, .un, .un, .un, .un, .mem M'] _
  refine sv_seq (sv_set (d := .int (60 + 10 * s8)) (ev_op ev_int (ev_op ev_int (ev_op (ev_var rfl) ev_int (rv_ixL i8)) (rv_mul (cmul_s (by omega) (by omega) (by omega) (by omega)))) rv_add) (by walk_at "at") ?_)
  refine sv_mid (fun Γ' => ∃ most : Nat, most ≤ 5000 ∧ Γ' = [.dat (.lst (ns.map .int)), .dat (.lst sh), .dat (.str (tx lt)), .dat (.int st), .dat (.int sec), .dat (rwD r), .dat (.ref a), .dat (mcD B.K lt sec r), .dat (.int most), .un, .un, .un, .un, .un, .un, .un, .mem M']) ?_ ?_
  · refine sv_if (evt_test (ev_op (ev_op (ev_var rfl) ev_int (rv_ixL i8)) ev_int rv_eqI)) (fun _ => ?_) fun _ => ?_
    · exact sv_set (d := .int ((5000 : Nat) : Int)) ev_int (by walk_at "at") ⟨5000, by decide, rfl⟩
    · exact sv_next ⟨(60 + 10 * s8).toNat, by omega, by rw [Int.toNat_of_nonneg (by omega)]⟩
  rintro Γ' ⟨most, hmost, rfl⟩
  have hdzl : (digits (cellZ ns 1) szs).length = 44 := by rw [digits_len]; exact szs_len
  refine sv_seq (sv_set (d := .lst ((digits (cellZ ns 1) szs).map .int)) (ev_callS (eva_cons (ev_callS (eva_cons (by walk_at "ev") (eva_cons (by walk_at "ev") eva_nil)) ⟨ns, 1, rfl, by omega, by omega, rfl⟩) (eva_cons (ev_eq (ev_op (Ev.of_own (evo_lstX (ds := [.int 6, .int 41, .int 8, .int 401]) (by walk_at "ev") (Nat.le_of_ble_eq_true rfl))) (ev_rep (k := 40) (evo_lstX (ds := [.int 6]) (by walk_at "ev") (Nat.le_of_ble_eq_true rfl)) ev_int (by omega) (by omega) (by decide)) (rv_addL (by decide))) (show D.lst _ = .lst (szs.map D.int) from rfl)) eva_nil)) ⟨cellZ ns 1, szs, rfl, szs_pos, by decide, rfl⟩) (by walk_at "at") ?_)
  have q0 := dig_rng (dg := digits (cellZ ns 1) szs) rfl 0 6 rfl (by decide)
  have q1 := dig_rng (dg := digits (cellZ ns 1) szs) rfl 1 41 rfl (by decide)
  have q3 := dig_rng (dg := digits (cellZ ns 1) szs) rfl 3 401 rfl (by decide)
  generalize digits (cellZ ns 1) szs = dz at *
  have dzi : ∀ i : Nat, i < 44 → dz[i]? = some (dz.getD i 0) := fun i hi => by rw [List.getD_eq_getElem?_getD, List.getElem?_eq_getElem (by omega)]; rfl
  have dza : ∀ i : Nat, i < 44 → atI (dz.map D.int) ((i : Nat) : Int) = some (.int (dz.getD i 0)) := fun i hi => atI_ofNat (by rw [List.getElem?_map, dzi i hi]; rfl)
  let cf : Nat → Nat := fun i => lt.getD ((dz.getD i 0) % ((lt.length : Nat) : Int)).toNat 0
  have cfm : ∀ i, (((dz.getD i 0) % ((lt.length : Nat) : Int)).toNat : Nat) < lt.length := fun i => by
    have h1 := Int.emod_nonneg (dz.getD i 0) (b := ((lt.length : Nat) : Int)) (by omega)
    have h2 := Int.emod_lt_of_pos (dz.getD i 0) (b := ((lt.length : Nat) : Int)) (by omega)
    omega
  have cfe : ∀ i, lt[((dz.getD i 0) % ((lt.length : Nat) : Int)).toNat]? = some (cf i) := fun i => by
    have h := cfm i
    show lt[((dz.getD i 0) % ((lt.length : Nat) : Int)).toNat]? = some (lt.getD ((dz.getD i 0) % ((lt.length : Nat) : Int)).toNat 0)
    generalize ((dz.getD i 0) % ((lt.length : Nat) : Int)).toNat = N at h ⊢
    rw [List.getD_eq_getElem?_getD, List.getElem?_eq_getElem h]; rfl
  have cfin : ∀ i, cf i ∈ lt := fun i => List.mem_of_getElem? (cfe i)
  have elem : ∀ (Γ : List Sl) (tix : TE) (v : Int) (i : Nat), Γ[2]? = some (.dat (.str (tx lt))) → Γ[9]? = some (.dat (.lst (dz.map .int))) → Ev B tix Γ (.int v) → v = (i : Nat) → i < 44 → Ev B (tOp (zIx B.K) (tVar 2) (tOp zMod (tCB zInt (tCons (tOp (zIx B.K) (tVar 9) tix) tNil)) (tCB (zLen B.K) (tCons (tVar 2) tNil)))) Γ (.str (tx [cf i])) := fun Γ tix v i g2 g9 hv e hi => by
    subst e
    have hat : atI lt ((dz.getD i 0) % ((lt.length : Nat) : Int)) = some (cf i) := by
      have := atI_ofNat (cfe i)
      rwa [Int.toNat_of_nonneg (Int.emod_nonneg _ (by omega))] at this
    exact ev_op (ev_var g2) (ev_op (ev_cb (eva_cons (ev_op (ev_var g9) hv (rv_ixL (dza i hi))) eva_nil) rc_int) (ev_cb (eva_cons (ev_var g2) eva_nil) (rc_lenT (by omega))) (rv_mod (by omega))) (rv_ixT hat (by omega))
  have rng : ∀ (Γ : List Sl) (i : Nat) (m : Int), Γ[9]? = some (.dat (.lst (dz.map .int))) → i < 44 → 0 ≤ dz.getD i 0 ∧ dz.getD i 0 < m → m ≤ 1000 → EvI B (iRng1 (tCons (tOp (zIx B.K) (tVar 9) (tC (.int (i : Nat)))) tNil)) Γ ((List.range (dz.getD i 0).toNat).map fun k => .int (k : Nat)) := fun Γ i m g9 hi hb hm => evi_rng1 (eva_cons (ev_op (ev_var g9) ev_int (rv_ixL (dza i hi))) eva_nil) (by omega)
  let T0 := (List.range (dz.getD 0 0).toNat).map fun k => cf (4 + k)
  let T1 := (List.range (dz.getD 1 0).toNat).map fun k => cf (4 + k % 40)
  let T2 := (List.range (dz.getD 3 0).toNat).map fun k => cf (4 + (k * k + k) % 40)
  have t0l : T0.length ≤ 400 := by show ((List.range _).map _).length ≤ 400; rw [List.length_map, List.length_range]; omega
  have t1l : T1.length ≤ 400 := by show ((List.range _).map _).length ≤ 400; rw [List.length_map, List.length_range]; omega
  have t2l : T2.length ≤ 400 := by show ((List.range _).map _).length ≤ 400; rw [List.length_map, List.length_range]; omega
  have tin : ∀ (n : Nat) (g : Nat → Nat), ∀ c ∈ (List.range n).map (fun k => cf (g k)), c ∈ lt := fun n g c hc => by
    obtain ⟨k, _, rfl⟩ := List.mem_map.mp hc
    exact cfin _
  refine sv_seq (sv_setO (w := .lst ([T0, T1].map strD)) (evo_lstX (eva_cons (text_join (dz.getD 0 0).toNat (fun k => cf (4 + k)) (by omega) (rng _ 0 6 rfl (by decide) q0 (by decide)) (Nat.le_of_ble_eq_true rfl) fun k hk => elem _ _ _ (4 + k) rfl rfl (ev_op ev_int (ev_var rfl) rv_add) (by omega) (by omega)) (eva_cons (text_join (dz.getD 1 0).toNat (fun k => cf (4 + k % 40)) (by omega) (rng _ 1 41 rfl (by decide) q1 (by decide)) (Nat.le_of_ble_eq_true rfl) fun k hk => elem _ _ _ (4 + k % 40) rfl rfl (ev_op ev_int (ev_op (ev_cb (eva_cons (ev_var rfl) eva_nil) rc_int) ev_int (rv_mod (by decide))) rv_add) (by omega) (by omega)) eva_nil)) (Nat.le_of_ble_eq_true rfl)) (by walk_at "at") ?_)
  refine sv_mid (fun Γ' => ∃ rest : List (List Nat), rest.length ≤ 1 ∧ (∀ t ∈ T0 :: T1 :: rest, t.length ≤ 400 ∧ ∀ c ∈ t, c ∈ lt) ∧ Γ' = [.dat (.lst (ns.map .int)), .dat (.lst sh), .dat (.str (tx lt)), .dat (.int st), .dat (.int sec), .dat (rwD r), .dat (.ref a), .dat (mcD B.K lt sec r), .dat (.int most), .dat (.lst (dz.map .int)), .own (.lst ((T0 :: T1 :: rest).map strD)), .un, .un, .un, .un, .un, .mem M']) ?_ ?_
  · have h01 : ∀ t ∈ [T0, T1], t.length ≤ 400 ∧ ∀ c ∈ t, c ∈ lt := fun t ht => by
      simp only [List.mem_cons, List.not_mem_nil, or_false] at ht
      rcases ht with rfl | rfl
      · exact ⟨t0l, tin _ _⟩
      · exact ⟨t1l, tin _ _⟩
    refine sv_if (evt_test (ev_op (ev_op (ev_var rfl) ev_int (rv_ixL (dza 2 (by decide)))) ev_int rv_eqI)) (fun _ => ?_) fun _ => sv_next ⟨[], by simp, h01, rfl⟩
    refine sv_app (d := strD T2) rfl (text_join (dz.getD 3 0).toNat (fun k => cf (4 + (k * k + k) % 40)) (by omega) (rng _ 3 401 rfl (by decide) q3 (by decide)) (Nat.le_of_ble_eq_true rfl) fun k hk => elem _ _ ((4 : Int) + (((k : Nat) : Int) * ((k : Nat) : Int) + ((k : Nat) : Int)) % 40) (4 + (k * k + k) % 40) rfl rfl (ev_op ev_int (ev_op (ev_cb (eva_cons (ev_op (ev_op (ev_var rfl) (ev_var rfl) (rv_mul (cmul_s (by omega) (by omega) (by omega) (by omega)))) (ev_var rfl) rv_add) eva_nil) rc_int) ev_int (rv_mod (by decide))) rv_add) (by rw [← Int.natCast_mul]; omega) (by omega)) (Nat.le_of_ble_eq_true rfl) (by walk_at "at") ?_
    refine ⟨[T2], by simp, fun t ht => ?_, rfl⟩
    rcases List.mem_append.mp (show t ∈ [T0, T1] ++ [T2] from ht) with h | h
    · exact h01 t h
    · rw [List.mem_singleton] at h; subst h; exact ⟨t2l, tin _ _⟩
  rintro Γ' ⟨rest, hrl, hts, rfl⟩
  have hT0 := hts T0 (by simp)
  have hT1 := hts T1 (by simp)
  generalize T0 = T0, T1 = T1 at *
  refine sv_freeze 10 rfl (by walk_at "at") ?_
  have j0 : atI ((T0 :: T1 :: rest).map strD) (0 : Int) = some (.str (tx T0)) := atI_ofNat (n := 0) rfl
  have j1 : atI ((T0 :: T1 :: rest).map strD) (1 : Int) = some (.str (tx T1)) := atI_ofNat (n := 1) rfl
  refine sv_seq (sv_if (p := false) (evt_eq (evt_not (p := true) (evt_b (ev_callS (by walk_at "ev") ⟨lt, r, 1 + lt.length, sec, st, rfl, ht, by omega, by omega, by omega, rfl⟩))) rfl) (fun h => nomatch h) fun _ => sv_next ?_)
  refine sv_seq (sv_for strD (T0 :: T1 :: rest) (evi_list (ev_var rfl)) (fun _ Γ' => ∃ c11 : Sl, Γ' = [.dat (.lst (ns.map .int)), .dat (.lst sh), .dat (.str (tx lt)), .dat (.int st), .dat (.int sec), .dat (rwD r), .dat (.ref a), .dat (mcD B.K lt sec r), .dat (.int most), .dat (.lst (dz.map .int)), .dat (.lst ((T0 :: T1 :: rest).map strD)), c11, .un, .un, .un, .un, .mem M']) ⟨_, rfl⟩ ?_ ?_)
  rotate_left
  · rintro t rem Γ' ⟨pre, hp⟩ ⟨c11, rfl⟩
    refine ⟨_, evg_name (by walk_at "at"), ?_⟩
    obtain ⟨g1, g2⟩ := hts t (by rw [hp]; simp)
    exact sv_if (p := false) (evt_eq (evt_not (p := true) (evt_b (ev_callS (eva_cons (ev_var rfl) (eva_cons (ev_var rfl) (eva_cons (ev_var rfl) (eva_cons (ev_var rfl) (eva_cons (ev_var rfl) (eva_cons (ev_op (ev_var rfl) ev_int (rv_ixL i10)) eva_nil)))))) ⟨lt, t, r, sec, st, most, s10, rfl, ht, by omega, by omega, by omega, by omega, by omega, r10.1, g2, rfl⟩))) rfl) (fun h => nomatch h) fun _ => sv_next ⟨_, rfl⟩
  rintro Γ' ⟨c11, rfl⟩
  obtain ⟨d0, d1, d2, d3, ed⟩ := list4 (r := digits (cellZ ns 3) [40, 41, 40, 41]) (by rw [digits_len]; rfl)
  have p0 : 0 ≤ d0 ∧ d0 < 40 := dig_rng ed 0 40 rfl (by decide)
  have p1 : 0 ≤ d1 ∧ d1 < 41 := dig_rng ed 1 41 rfl (by decide)
  have p2 : 0 ≤ d2 ∧ d2 < 40 := dig_rng ed 2 40 rfl (by decide)
  have p3 : 0 ≤ d3 ∧ d3 < 41 := dig_rng ed 3 41 rfl (by decide)
  refine sv_seq (sv_set (d := .lst [.int d0, .int d1, .int d2, .int d3]) (ev_callS (eva_cons (ev_callS (eva_cons (by walk_at "ev") (eva_cons (by walk_at "ev") eva_nil)) ⟨ns, 3, rfl, by omega, by omega, rfl⟩) (eva_cons (Ev.of_own (evo_lstX (ds := ([40, 41, 40, 41] : List Int).map D.int) (eva_cons ev_int (eva_cons ev_int (eva_cons ev_int (eva_cons ev_int eva_nil)))) (by decide))) eva_nil)) ⟨cellZ ns 3, [40, 41, 40, 41], rfl, by decide, by decide, by rw [ed]; rfl⟩) (by walk_at "at") ?_)
  have hm50 : s10 % 50 = (((s10 % 50).toNat : Nat) : Int) := by omega
  refine sv_seq (sv_if (p := false) (evt_eq (evt_not (p := true) (evt_b (ev_callS (eva_cons (ev_var rfl) (eva_cons (ev_var rfl) (eva_cons (ev_op (ev_var rfl) ev_int (rv_ixL j1)) (eva_cons (ev_var rfl) (eva_cons (ev_eq (ev_op (ev_cb (eva_cons (ev_op (ev_var rfl) ev_int (rv_ixL i10)) eva_nil) rc_int) ev_int (rv_mod (by decide))) (congrArg D.int hm50)) eva_nil))))) ⟨lt, T1, r, sec, st, (s10 % 50).toNat, d0, d1, d2, d3, rfl, ht, by omega, by omega, by omega, by omega, by omega, p0, p1.1, p2, p3.1, rfl⟩))) rfl) (fun h => nomatch h) fun _ => sv_next ?_)
  refine sv_seq (sv_if (p := false) (evt_eq (evt_not (p := true) (evt_b (ev_callS (eva_cons (ev_var rfl) (eva_cons (ev_var rfl) (eva_cons (ev_var rfl) (eva_cons (ev_eq (ev_op (ev_var rfl) ev_int (rv_ixL i9)) (congrArg D.int hs9)) eva_nil)))) ⟨lt, sec, r, s9.toNat, rfl, hlt, hrw, by omega, rfl⟩))) rfl) (fun h => nomatch h) fun _ => sv_next ?_)
  refine sv_seq (sv_setON (evon_callS (eva_cons (ev_var rfl) (eva_cons (ev_var rfl) (eva_cons (ev_var rfl) (eva_cons (ev_var rfl) (eva_cons (ev_eq (ev_op (ev_var rfl) ev_int (rv_ixL i7)) (congrArg D.int hs7)) eva_nil))))) ⟨ns, lt, sec, r, s7.toNat, rfl, hlt, hrb, by omega, fun rs hrs hrsl => ⟨_, rfl, _, by walk_at "at", ?_⟩⟩))
  refine sv_freeze 13 rfl (by walk_at "at") ?_
  refine sv_seq (sv_if (p := false) (evt_test (ev_op (b := .non) (ev_var rfl) ev_non rv_isN')) (fun h => nomatch h) fun _ => sv_next ?_)
  have hall : ∀ q ∈ (r :: rs) ++ [r], ∃ st : Nat, 1 ≤ st ∧ st ≤ 6 ∧ TabOk (1 + lt.length) sec st q := fun q hq => by
    have hq : q = r ∨ q ∈ rs := by
      simp only [List.mem_append, List.mem_cons, List.not_mem_nil, or_false] at hq
      rcases hq with (h | h) | h
      · exact .inl h
      · exact .inr h
      · exact .inl h
    rcases hq with rfl | hq
    · exact ⟨st, hst1, by omega, ht⟩
    · obtain ⟨h1, h2⟩ := hrs q hq
      obtain ⟨h3, h4⟩ := tab_of_wrong h2
      exact ⟨q.length, h3, h1.1, h4⟩
  have hsum : (r :: rs).length ≤ 7 := by simp; omega
  have pl : ∀ Γ : List Sl, Γ[7]? = some (.dat (mcD B.K lt sec r)) → Γ[5]? = some (.dat (rwD r)) → Ev B (tLst (tCons (tLst (tCons (tVar 7) (tCons (tVar 5) tNil))) tNil)) Γ (.lst [.lst [mcD B.K lt sec r, rwD r]]) := fun Γ g7 g5 => Ev.of_own (evo_lstX (eva_cons (Ev.of_own (evo_lstX (eva_cons (ev_var g7) (eva_cons (ev_var g5) eva_nil)) (Nat.le_of_ble_eq_true rfl))) eva_nil) (Nat.le_of_ble_eq_true rfl))
  refine sv_seq (sv_for (fun q : Rw => D.lst [mcD B.K lt sec q, rwD q]) ((r :: rs) ++ [r]) (evi_list (ev_eq (ev_op (ev_op (pl _ rfl rfl) (ev_var rfl) (rv_addL (by simp; omega))) (pl _ rfl rfl) (rv_addL (by simp; omega))) (by rw [List.map_append, List.map_cons]; rfl))) (fun _ Γ' => ∃ c14 : Sl, Γ' = [.dat (.lst (ns.map .int)), .dat (.lst sh), .dat (.str (tx lt)), .dat (.int st), .dat (.int sec), .dat (rwD r), .dat (.ref a), .dat (mcD B.K lt sec r), .dat (.int most), .dat (.lst (dz.map .int)), .dat (.lst ((T0 :: T1 :: rest).map strD)), c11, .dat (.lst [.int d0, .int d1, .int d2, .int d3]), .dat (.lst (rs.map fun q => .lst [mcD B.K lt sec q, rwD q])), c14, .un, .mem M']) ⟨_, rfl⟩ ?_ ?_)
  · rintro Γ' ⟨c14, rfl⟩
    exact sv_retD (by walk_at "ev") hR
  · rintro q rem Γ' ⟨pre, hp⟩ ⟨c14, rfl⟩
    refine ⟨_, evg_name (by walk_at "at"), ?_⟩
    obtain ⟨st2, g1, g2, g3⟩ := hall q (by rw [hp]; simp)
    have k0 : atI [mcD B.K lt sec q, rwD q] (0 : Int) = some (mcD B.K lt sec q) := rfl
    have k1 : atI [mcD B.K lt sec q, rwD q] (1 : Int) = some (rwD q) := rfl
    refine sv_seq (sv_if (p := false) (evt_eq (evt_not (p := true) (evt_b (ev_callS (eva_cons (ev_op (ev_var rfl) ev_int (rv_ixL k0)) (eva_cons (ev_var rfl) (eva_cons (ev_var rfl) (eva_cons (ev_op (ev_var rfl) ev_int (rv_ixL k1)) eva_nil)))) ⟨lt, q, 1 + lt.length, sec, st2, rfl, g3, by omega, by omega, by omega, rfl⟩))) rfl) (fun h => nomatch h) fun _ => sv_next ?_)
    exact sv_if (p := false) (evt_eq (evt_not (p := true) (evt_b (ev_callS (eva_cons (ev_op (ev_var rfl) ev_int (rv_ixL k0)) (eva_cons (ev_op (ev_var rfl) ev_int (rv_ixL k1)) (eva_cons (ev_var rfl) (eva_cons (ev_op (ev_var rfl) ev_int (rv_ixL j0)) (eva_cons (ev_int (i := (30 : Nat))) (eva_cons (ev_op (ev_var rfl) ev_int (rv_ixL i10)) eva_nil)))))) ⟨lt, T0, q, sec, st2, 30, s10, rfl, g3, by omega, by omega, by omega, by omega, by decide, r10.1, hT0.2, rfl⟩))) rfl) (fun h => nomatch h) fun _ => sv_next ⟨_, rfl⟩

end L

namespace L
open PySem PySem.Spec PyProof.Rows L2 Z

section
variable {P : Program} {w : World} {K : PySem.W.Frag} {mg : Str → Option Value} {base : Heap}
theorem dx_BadLetters (T : Tx w K mg) {fd : FuncData} (FD : FunD K "__init__" "BadLetters.__init__" (defArgs s_BadLetters) (defBody s_BadLetters) (defScope s_BadLetters) [] [] (He.ma K (He.ga K "BadLetters") "__init__") fd) : Dx P w K mg base "BadLetters" (He.ga K "BadLetters") ["self", "letters"] (spX1 (He.ga K "BadLetters") "letters") :=
  ⟨T.x_BadLetters, T.g_BadLetters, _, fd, FD.ok sc_BadLetters spX1_len (fun cdv A outer s H vs Q E hr h => ⟨_, pss_one (ps_ost (pv 0) (pv 1)), init1 T.x_BadLetters T.n_BadLetters_letters h⟩), T.i_BadLetters.1, T.i_BadLetters.2, FD.bindsN fun _ _ _ _ _ _ us hl => match us, hl with | [_, _], _ => rfl⟩
theorem dx_BadText (T : Tx w K mg) {fd : FuncData} (FD : FunD K "__init__" "BadText.__init__" (defArgs s_BadText) (defBody s_BadText) (defScope s_BadText) [] [] (He.ma K (He.ga K "BadText") "__init__") fd) : Dx P w K mg base "BadText" (He.ga K "BadText") ["self", "index"] (spX1 (He.ga K "BadText") "index") :=
  ⟨T.x_BadText, T.g_BadText, _, fd, FD.ok sc_BadText spX1_len (fun cdv A outer s H vs Q E hr h => ⟨_, pss_one (ps_ost (pv 0) (pv 1)), init1 T.x_BadText T.n_BadText_index h⟩), T.i_BadText.1, T.i_BadText.2, FD.bindsN fun _ _ _ _ _ _ us hl => match us, hl with | [_, _], _ => rfl⟩
theorem dx_BadTable (T : Tx w K mg) {fd : FuncData} (FD : FunD K "__init__" "BadTable.__init__" (defArgs s_BadTable) (defBody s_BadTable) (defScope s_BadTable) [] [] (He.ma K (He.ga K "BadTable") "__init__") fd) : Dx P w K mg base "BadTable" (He.ga K "BadTable") ["self", "state"] (spX1 (He.ga K "BadTable") "state") :=
  ⟨T.x_BadTable, T.g_BadTable, _, fd, FD.ok sc_BadTable spX1_len (fun cdv A outer s H vs Q E hr h => ⟨_, pss_one (ps_ost (pv 0) (pv 1)), init1 T.x_BadTable T.n_BadTable_state h⟩), T.i_BadTable.1, T.i_BadTable.2, FD.bindsN fun _ _ _ _ _ _ us hl => match us, hl with | [_, _], _ => rfl⟩
theorem ok__law_digits (T : Tx w K mg)  {fd : FuncData} (FD : FunD K "_law_digits" "_law_digits" (defArgs s__law_digits) (defBody s__law_digits) (defScope s__law_digits) [] [] (He.ga K "_law_digits") fd) (gm : mg "_law_digits" = some (.ref (He.ga K "_law_digits"))) : Df P w K mg base "_law_digits" ["cell", "sizes"] 1 (spz K (F__law_digits K)) :=
  ⟨_, fd, FD.ok sc__law_digits (spz_len (len__law_digits (K := K))) (fun cdv A outer s H vs Q E hr h => ⟨_, ps__law_digits T  hr, sv_def h fun G ds R X hF => pure__law_digits ⟨K, G, H, NoF⟩ T _ ds R X hF⟩), gm, FD.kp, FD.bindsN fun _ _ _ _ _ _ us hl => match us, hl with | [_, _], _ => rfl⟩
theorem ok__law_letters (T : Tx w K mg)  {fd : FuncData} (FD : FunD K "_law_letters" "_law_letters" (defArgs s__law_letters) (defBody s__law_letters) (defScope s__law_letters) [] [] (He.ga K "_law_letters") fd) (gm : mg "_law_letters" = some (.ref (He.ga K "_law_letters"))) : Df P w K mg base "_law_letters" ["row"] 1 (spz K (F__law_letters K)) :=
  ⟨_, fd, FD.ok sc__law_letters (spz_len (len__law_letters (K := K))) (fun cdv A outer s H vs Q E hr h => ⟨_, ps__law_letters T  hr, sv_def h fun G ds R X hF => pure__law_letters ⟨K, G, H, NoF⟩ T _ ds R X hF⟩), gm, FD.kp, FD.bindsN fun _ _ _ _ _ _ us hl => match us, hl with | [_], _ => rfl⟩
theorem ok__law_cell (T : Tx w K mg)  {fd : FuncData} (FD : FunD K "_law_cell" "_law_cell" (defArgs s__law_cell) (defBody s__law_cell) (defScope s__law_cell) [] [] (He.ga K "_law_cell") fd) (gm : mg "_law_cell" = some (.ref (He.ga K "_law_cell"))) : Df P w K mg base "_law_cell" ["script", "k"] 1 (spz K (F__law_cell K)) :=
  ⟨_, fd, FD.ok sc__law_cell (spz_len (len__law_cell (K := K))) (fun cdv A outer s H vs Q E hr h => ⟨_, ps__law_cell T  hr, sv_def h fun G ds R X hF => pure__law_cell ⟨K, G, H, NoF⟩ T _ ds R X hF⟩), gm, FD.kp, FD.bindsN fun _ _ _ _ _ _ us hl => match us, hl with | [_, _], _ => rfl⟩
theorem ok__law_two_option (T : Tx w K mg)  {fd : FuncData} (FD : FunD K "_law_two_option" "_law_two_option" (defArgs s__law_two_option) (defBody s__law_two_option) (defScope s__law_two_option) [] [] (He.ga K "_law_two_option") fd) (gm : mg "_law_two_option" = some (.ref (He.ga K "_law_two_option"))) : Df P w K mg base "_law_two_option" ["row", "one", "two", "second", "states"] 1 (spz K (F__law_two_option K)) :=
  ⟨_, fd, FD.ok sc__law_two_option (spz_len (len__law_two_option (K := K))) (fun cdv A outer s H vs Q E hr h => ⟨_, ps__law_two_option T  hr, sv_def h fun G ds R X hF => pure__law_two_option ⟨K, G, H, NoF⟩ T _ ds R X hF⟩), gm, FD.kp, FD.bindsN fun _ _ _ _ _ _ us hl => match us, hl with | [_, _, _, _, _], _ => rfl⟩
theorem ok__law_two_table (T : Tx w K mg) (D__law_cell : Df P w K mg base "_law_cell" ["script", "k"] 1 (spz K (F__law_cell K))) (D__law_digits : Df P w K mg base "_law_digits" ["cell", "sizes"] 1 (spz K (F__law_digits K))) (D__law_two_option : Df P w K mg base "_law_two_option" ["row", "one", "two", "second", "states"] 1 (spz K (F__law_two_option K))) {fd : FuncData} (FD : FunD K "_law_two_table" "_law_two_table" (defArgs s__law_two_table) (defBody s__law_two_table) (defScope s__law_two_table) [] [] (He.ga K "_law_two_table") fd) (gm : mg "_law_two_table" = some (.ref (He.ga K "_law_two_table"))) : Df P w K mg base "_law_two_table" ["script", "at", "first", "second", "states"] 2 (spz K (F__law_two_table K)) :=
  ⟨_, fd, FD.ok sc__law_two_table (spz_len (len__law_two_table (K := K))) (fun cdv A outer s H vs Q E hr h => ⟨_, ps__law_two_table T D__law_cell D__law_digits D__law_two_option hr, sv_def h fun G ds R X hF => pure__law_two_table ⟨K, G, H, NoF⟩ T _ ds R X hF⟩), gm, FD.kp, FD.bindsN fun _ _ _ _ _ _ us hl => match us, hl with | [_, _, _, _, _], _ => rfl⟩
theorem ok__law_handed (T : Tx w K mg)  {fd : FuncData} (FD : FunD K "_law_handed" "_law_handed" (defArgs s__law_handed) (defBody s__law_handed) (defScope s__law_handed) [] [] (He.ga K "_law_handed") fd) (gm : mg "_law_handed" = some (.ref (He.ga K "_law_handed"))) : Df P w K mg base "_law_handed" ["rows", "style"] 1 (spm K (F__law_handed K)) :=
  ⟨_, fd, FD.ok sc__law_handed (spm_len (len__law_handed (K := K))) (fun cdv A outer s H vs Q E hr h => ⟨_, ps__law_handed T  hr, sv_defM h (fun ds M R X q => by rw [len__law_handed ds M R X q]; decide) fun G ds M R X hF => pure__law_handed ⟨K, G, H, fun a => M a ≠ none⟩ T _ ds M R X hF⟩), gm, FD.kp, FD.bindsN fun _ _ _ _ _ _ us hl => match us, hl with | [_, _], _ => rfl⟩
theorem ok_are_letters (T : Tx w K mg)  {fd : FuncData} (FD : FunD K "are_letters" "are_letters" (defArgs s_are_letters) (defBody s_are_letters) (defScope s_are_letters) [] [] (He.ga K "are_letters") fd) (gm : mg "are_letters" = some (.ref (He.ga K "are_letters"))) : Df P w K mg base "are_letters" ["letters"] 1 (spz K (F_are_letters K)) :=
  ⟨_, fd, FD.ok sc_are_letters (spz_len (len_are_letters (K := K))) (fun cdv A outer s H vs Q E hr h => ⟨_, ps_are_letters T  hr, sv_def h fun G ds R X hF => pure_are_letters ⟨K, G, H, NoF⟩ T _ ds R X hF⟩), gm, FD.kp, FD.bindsN fun _ _ _ _ _ _ us hl => match us, hl with | [_], _ => rfl⟩
theorem ok_check_letters (T : Tx w K mg) (D_BadLetters : Dx P w K mg base "BadLetters" (He.ga K "BadLetters") ["self", "letters"] (spX1 (He.ga K "BadLetters") "letters")) (D_are_letters : Df P w K mg base "are_letters" ["letters"] 1 (spz K (F_are_letters K))) {fd : FuncData} (FD : FunD K "check_letters" "check_letters" (defArgs s_check_letters) (defBody s_check_letters) (defScope s_check_letters) [] [] (He.ga K "check_letters") fd) (gm : mg "check_letters" = some (.ref (He.ga K "check_letters"))) : Df P w K mg base "check_letters" ["letters"] 3 (spz K (F_check_letters K)) :=
  ⟨_, fd, FD.ok sc_check_letters (spz_len (len_check_letters (K := K))) (fun cdv A outer s H vs Q E hr h => ⟨_, ps_check_letters T D_BadLetters D_are_letters hr, sv_def h fun G ds R X hF => pure_check_letters ⟨K, G, H, NoF⟩ T _ ds R X hF⟩), gm, FD.kp, FD.bindsN fun _ _ _ _ _ _ us hl => match us, hl with | [_], _ => rfl⟩
theorem ok_frozen (T : Tx w K mg)  {fd : FuncData} (FD : FunD K "frozen" "frozen" (defArgs s_frozen) (defBody s_frozen) (defScope s_frozen) [] [] (He.ga K "frozen") fd) (gm : mg "frozen" = some (.ref (He.ga K "frozen"))) : ∀ n : Nat, Df P w K mg base "frozen" ["value"] (1 + n) (spz K (F_frozen n K))
  | 0 => ⟨_, fd, FD.ok (k := 0) sc_frozen (spz_len (len_frozen (K := K) 0)) (fun cdv A outer s H vs Q E hr h => by obtain ⟨_, _, _, _, _, _, z, _⟩ := h; exact z.elim), gm, FD.kp, FD.bindsN fun _ _ _ _ _ _ us hl => match us, hl with | [_], _ => rfl⟩
  | n + 1 => ⟨_, fd, FD.ok (k := 1 + n) sc_frozen (spz_len (len_frozen (K := K) (n + 1))) (fun cdv A outer s H vs Q E hr h => ⟨_, ps_frozen n T (ok_frozen T  FD gm n) hr, sv_def h fun G ds R X hF => pure_frozen n ⟨K, G, H, NoF⟩ T _ ds R X hF⟩), gm, FD.kp, FD.bindsN fun _ _ _ _ _ _ us hl => match us, hl with | [_], _ => rfl⟩
theorem ok_is_whole (T : Tx w K mg)  {fd : FuncData} (FD : FunD K "is_whole" "is_whole" (defArgs s_is_whole) (defBody s_is_whole) (defScope s_is_whole) [] [] (He.ga K "is_whole") fd) (gm : mg "is_whole" = some (.ref (He.ga K "is_whole"))) : Df P w K mg base "is_whole" ["value"] 1 (spz K (F_is_whole K)) :=
  ⟨_, fd, FD.ok sc_is_whole (spz_len (len_is_whole (K := K))) (fun cdv A outer s H vs Q E hr h => ⟨_, ps_is_whole T  hr, sv_def h fun G ds R X hF => pure_is_whole ⟨K, G, H, NoF⟩ T _ ds R X hF⟩), gm, FD.kp, FD.bindsN fun _ _ _ _ _ _ us hl => match us, hl with | [_], _ => rfl⟩
theorem ok_is_two_option (T : Tx w K mg) (D_is_whole : Df P w K mg base "is_whole" ["value"] 1 (spz K (F_is_whole K))) {fd : FuncData} (FD : FunD K "is_two_option" "is_two_option" (defArgs s_is_two_option) (defBody s_is_two_option) (defScope s_is_two_option) [] [] (He.ga K "is_two_option") fd) (gm : mg "is_two_option" = some (.ref (He.ga K "is_two_option"))) : Df P w K mg base "is_two_option" ["value", "second_symbols", "states"] 2 (spz K (F_is_two_option K)) :=
  ⟨_, fd, FD.ok sc_is_two_option (spz_len (len_is_two_option (K := K))) (fun cdv A outer s H vs Q E hr h => ⟨_, ps_is_two_option T D_is_whole hr, sv_def h fun G ds R X hF => pure_is_two_option ⟨K, G, H, NoF⟩ T _ ds R X hF⟩), gm, FD.kp, FD.bindsN fun _ _ _ _ _ _ us hl => match us, hl with | [_, _, _], _ => rfl⟩
theorem ok_is_two_row (T : Tx w K mg) (D_is_two_option : Df P w K mg base "is_two_option" ["value", "second_symbols", "states"] 2 (spz K (F_is_two_option K))) {fd : FuncData} (FD : FunD K "is_two_row" "is_two_row" (defArgs s_is_two_row) (defBody s_is_two_row) (defScope s_is_two_row) [] [] (He.ga K "is_two_row") fd) (gm : mg "is_two_row" = some (.ref (He.ga K "is_two_row"))) : Df P w K mg base "is_two_row" ["row", "first_symbols", "second_symbols", "states"] 3 (spz K (F_is_two_row K)) :=
  ⟨_, fd, FD.ok sc_is_two_row (spz_len (len_is_two_row (K := K))) (fun cdv A outer s H vs Q E hr h => ⟨_, ps_is_two_row T D_is_two_option hr, sv_def h fun G ds R X hF => pure_is_two_row ⟨K, G, H, NoF⟩ T _ ds R X hF⟩), gm, FD.kp, FD.bindsN fun _ _ _ _ _ _ us hl => match us, hl with | [_, _, _, _], _ => rfl⟩
theorem ok_TwoTape (T : Tx w K mg) (D_BadTable : Dx P w K mg base "BadTable" (He.ga K "BadTable") ["self", "state"] (spX1 (He.ga K "BadTable") "state")) (D_check_letters : Df P w K mg base "check_letters" ["letters"] 3 (spz K (F_check_letters K))) (D_frozen : Df P w K mg base "frozen" ["value"] 7 (spz K (F_frozen 6 K))) (D_is_two_row : Df P w K mg base "is_two_row" ["row", "first_symbols", "second_symbols", "states"] 3 (spz K (F_is_two_row K))) {fd : FuncData} (FD : FunD K "__init__" "TwoTape.__init__" (defArgs s_TwoTape) (defBody s_TwoTape) (defScope s_TwoTape) [] [] (He.ma K (He.ga K "TwoTape") "__init__") fd) : Dc P w K mg base "TwoTape" (He.ga K "TwoTape") ["self", "letters", "second_symbols", "table"] 8 (spI K (He.ga K "TwoTape") (F_TwoTape K)) :=
  ⟨T.g_TwoTape, _, fd, T.mk_TwoTape, FD.ok sc_TwoTape (spI_len (len_TwoTape (K := K))) (fun cdv A outer s H vs Q E hr h => ⟨_, ps_TwoTape T D_BadTable D_check_letters D_frozen D_is_two_row hr, sv_init (by decide) h fun H0 G a ds R X hF => pure_TwoTape T G H0 a _ ds R X hF⟩), FD.bindsN fun _ _ _ _ _ _ us hl => match us, hl with | [_, _, _, _], _ => rfl⟩
theorem ok__law_ruin (T : Tx w K mg)  {fd : FuncData} (FD : FunD K "_law_ruin" "_law_ruin" (defArgs s__law_ruin) (defBody s__law_ruin) (defScope s__law_ruin) [] [] (He.ga K "_law_ruin") fd) (gm : mg "_law_ruin" = some (.ref (He.ga K "_law_ruin"))) : Df P w K mg base "_law_ruin" ["handed"] 1 (spm K (F__law_ruin K)) :=
  ⟨_, fd, FD.ok sc__law_ruin (spm_len (len__law_ruin (K := K))) (fun cdv A outer s H vs Q E hr h => ⟨_, ps__law_ruin T  hr, sv_defM h (fun ds M R X q => by rw [len__law_ruin ds M R X q]; decide) fun G ds M R X hF => pure__law_ruin ⟨K, G, H, fun a => M a ≠ none⟩ T _ ds M R X hF⟩), gm, FD.kp, FD.bindsN fun _ _ _ _ _ _ us hl => match us, hl with | [_], _ => rfl⟩
theorem ok__law_other_option (T : Tx w K mg)  {fd : FuncData} (FD : FunD K "_law_other_option" "_law_other_option" (defArgs s__law_other_option) (defBody s__law_other_option) (defScope s__law_other_option) [] [] (He.ga K "_law_other_option") fd) (gm : mg "_law_other_option" = some (.ref (He.ga K "_law_other_option"))) : Df P w K mg base "_law_other_option" ["kind", "step", "far", "second", "states"] 1 (spz K (F__law_other_option K)) :=
  ⟨_, fd, FD.ok sc__law_other_option (spz_len (len__law_other_option (K := K))) (fun cdv A outer s H vs Q E hr h => ⟨_, ps__law_other_option T  hr, sv_def h fun G ds R X hF => pure__law_other_option ⟨K, G, H, NoF⟩ T _ ds R X hF⟩), gm, FD.kp, FD.bindsN fun _ _ _ _ _ _ us hl => match us, hl with | [_, _, _, _, _], _ => rfl⟩
theorem ok__law_spoilt (T : Tx w K mg) (D__law_other_option : Df P w K mg base "_law_other_option" ["kind", "step", "far", "second", "states"] 1 (spz K (F__law_other_option K))) {fd : FuncData} (FD : FunD K "_law_spoilt" "_law_spoilt" (defArgs s__law_spoilt) (defBody s__law_spoilt) (defScope s__law_spoilt) [] [] (He.ga K "_law_spoilt") fd) (gm : mg "_law_spoilt" = some (.ref (He.ga K "_law_spoilt"))) : Df P w K mg base "_law_spoilt" ["rows", "digits", "second"] 2 (spz K (F__law_spoilt K)) :=
  ⟨_, fd, FD.ok sc__law_spoilt (spz_len (len__law_spoilt (K := K))) (fun cdv A outer s H vs Q E hr h => ⟨_, ps__law_spoilt T D__law_other_option hr, sv_def h fun G ds R X hF => pure__law_spoilt ⟨K, G, H, NoF⟩ T _ ds R X hF⟩), gm, FD.kp, FD.bindsN fun _ _ _ _ _ _ us hl => match us, hl with | [_, _, _], _ => rfl⟩
theorem ok__law_whole (T : Tx w K mg)  {fd : FuncData} (FD : FunD K "_law_whole" "_law_whole" (defArgs s__law_whole) (defBody s__law_whole) (defScope s__law_whole) [] [] (He.ga K "_law_whole") fd) (gm : mg "_law_whole" = some (.ref (He.ga K "_law_whole"))) : Df P w K mg base "_law_whole" ["value"] 1 (spz K (F__law_whole K)) :=
  ⟨_, fd, FD.ok sc__law_whole (spz_len (len__law_whole (K := K))) (fun cdv A outer s H vs Q E hr h => ⟨_, ps__law_whole T  hr, sv_def h fun G ds R X hF => pure__law_whole ⟨K, G, H, NoF⟩ T _ ds R X hF⟩), gm, FD.kp, FD.bindsN fun _ _ _ _ _ _ us hl => match us, hl with | [_], _ => rfl⟩
theorem ok__law_right_option (T : Tx w K mg) (D__law_whole : Df P w K mg base "_law_whole" ["value"] 1 (spz K (F__law_whole K))) {fd : FuncData} (FD : FunD K "_law_right_option" "_law_right_option" (defArgs s__law_right_option) (defBody s__law_right_option) (defScope s__law_right_option) [] [] (He.ga K "_law_right_option") fd) (gm : mg "_law_right_option" = some (.ref (He.ga K "_law_right_option"))) : Df P w K mg base "_law_right_option" ["option", "second", "states"] 2 (spz K (F__law_right_option K)) :=
  ⟨_, fd, FD.ok sc__law_right_option (spz_len (len__law_right_option (K := K))) (fun cdv A outer s H vs Q E hr h => ⟨_, ps__law_right_option T D__law_whole hr, sv_def h fun G ds R X hF => pure__law_right_option ⟨K, G, H, NoF⟩ T _ ds R X hF⟩), gm, FD.kp, FD.bindsN fun _ _ _ _ _ _ us hl => match us, hl with | [_, _, _], _ => rfl⟩
theorem ok__law_first_wrong (T : Tx w K mg) (D__law_right_option : Df P w K mg base "_law_right_option" ["option", "second", "states"] 2 (spz K (F__law_right_option K))) {fd : FuncData} (FD : FunD K "_law_first_wrong" "_law_first_wrong" (defArgs s__law_first_wrong) (defBody s__law_first_wrong) (defScope s__law_first_wrong) [] [] (He.ga K "_law_first_wrong") fd) (gm : mg "_law_first_wrong" = some (.ref (He.ga K "_law_first_wrong"))) : Df P w K mg base "_law_first_wrong" ["rows", "first", "second"] 3 (spz K (F__law_first_wrong K)) :=
  ⟨_, fd, FD.ok sc__law_first_wrong (spz_len (len__law_first_wrong (K := K))) (fun cdv A outer s H vs Q E hr h => ⟨_, ps__law_first_wrong T D__law_right_option hr, sv_def h fun G ds R X hF => pure__law_first_wrong ⟨K, G, H, NoF⟩ T _ ds R X hF⟩), gm, FD.kp, FD.bindsN fun _ _ _ _ _ _ us hl => match us, hl with | [_, _, _], _ => rfl⟩
theorem ok__law_told (T : Tx w K mg) (C_TwoTape : Dc P w K mg base "TwoTape" (He.ga K "TwoTape") ["self", "letters", "second_symbols", "table"] 8 (spI K (He.ga K "TwoTape") (F_TwoTape K))) {fd : FuncData} (FD : FunD K "_law_told" "_law_told" (defArgs s__law_told) (defBody s__law_told) (defScope s__law_told) [] [] (He.ga K "_law_told") fd) (gm : mg "_law_told" = some (.ref (He.ga K "_law_told"))) : Df P w K mg base "_law_told" ["letters", "second", "handed"] 10 (spz K (F__law_told K)) :=
  ⟨_, fd, FD.ok sc__law_told (spz_len (len__law_told (K := K))) (fun cdv A outer s H vs Q E hr h => ⟨_, ps__law_told T C_TwoTape hr, sv_def h fun G ds R X hF => pure__law_told ⟨K, G, H, NoF⟩ T _ ds R X hF⟩), gm, FD.kp, FD.bindsN fun _ _ _ _ _ _ us hl => match us, hl with | [_, _, _], _ => rfl⟩
theorem ok__law_changed_tables (T : Tx w K mg) (C_TwoTape : Dc P w K mg base "TwoTape" (He.ga K "TwoTape") ["self", "letters", "second_symbols", "table"] 8 (spI K (He.ga K "TwoTape") (F_TwoTape K))) (D__law_cell : Df P w K mg base "_law_cell" ["script", "k"] 1 (spz K (F__law_cell K))) (D__law_digits : Df P w K mg base "_law_digits" ["cell", "sizes"] 1 (spz K (F__law_digits K))) (D__law_first_wrong : Df P w K mg base "_law_first_wrong" ["rows", "first", "second"] 3 (spz K (F__law_first_wrong K))) (D__law_handed : Df P w K mg base "_law_handed" ["rows", "style"] 1 (spm K (F__law_handed K))) (D__law_ruin : Df P w K mg base "_law_ruin" ["handed"] 1 (spm K (F__law_ruin K))) (D__law_spoilt : Df P w K mg base "_law_spoilt" ["rows", "digits", "second"] 2 (spz K (F__law_spoilt K))) (D__law_told : Df P w K mg base "_law_told" ["letters", "second", "handed"] 10 (spz K (F__law_told K))) (D__law_whole : Df P w K mg base "_law_whole" ["value"] 1 (spz K (F__law_whole K))) {fd : FuncData} (FD : FunD K "_law_changed_tables" "_law_changed_tables" (defArgs s__law_changed_tables) (defBody s__law_changed_tables) (defScope s__law_changed_tables) [] [] (He.ga K "_law_changed_tables") fd) (gm : mg "_law_changed_tables" = some (.ref (He.ga K "_law_changed_tables"))) : Df P w K mg base "_law_changed_tables" ["script", "letters", "second", "rows", "style"] 11 (spz K (F__law_changed_tables K)) :=
  ⟨_, fd, FD.ok sc__law_changed_tables (spz_len (len__law_changed_tables (K := K))) (fun cdv A outer s H vs Q E hr h => ⟨_, ps__law_changed_tables T C_TwoTape D__law_cell D__law_digits D__law_first_wrong D__law_handed D__law_ruin D__law_spoilt D__law_told D__law_whole hr, sv_def h fun G ds R X hF => pure__law_changed_tables ⟨K, G, H, NoF⟩ T _ ds R X hF⟩), gm, FD.kp, FD.bindsN fun _ _ _ _ _ _ us hl => match us, hl with | [_, _, _, _, _], _ => rfl⟩
theorem ok__law_same_option (T : Tx w K mg) (D__law_whole : Df P w K mg base "_law_whole" ["value"] 1 (spz K (F__law_whole K))) {fd : FuncData} (FD : FunD K "_law_same_option" "_law_same_option" (defArgs s__law_same_option) (defBody s__law_same_option) (defScope s__law_same_option) [] [] (He.ga K "_law_same_option") fd) (gm : mg "_law_same_option" = some (.ref (He.ga K "_law_same_option"))) : Df P w K mg base "_law_same_option" ["told", "option"] 2 (spz K (F__law_same_option K)) :=
  ⟨_, fd, FD.ok sc__law_same_option (spz_len (len__law_same_option (K := K))) (fun cdv A outer s H vs Q E hr h => ⟨_, ps__law_same_option T D__law_whole hr, sv_def h fun G ds R X hF => pure__law_same_option ⟨K, G, H, NoF⟩ T _ ds R X hF⟩), gm, FD.kp, FD.bindsN fun _ _ _ _ _ _ us hl => match us, hl with | [_, _], _ => rfl⟩
theorem ok__law_same_table (T : Tx w K mg) (D__law_same_option : Df P w K mg base "_law_same_option" ["told", "option"] 2 (spz K (F__law_same_option K))) {fd : FuncData} (FD : FunD K "_law_same_table" "_law_same_table" (defArgs s__law_same_table) (defBody s__law_same_table) (defScope s__law_same_table) [] [] (He.ga K "_law_same_table") fd) (gm : mg "_law_same_table" = some (.ref (He.ga K "_law_same_table"))) : Df P w K mg base "_law_same_table" ["told", "rows"] 3 (spz K (F__law_same_table K)) :=
  ⟨_, fd, FD.ok sc__law_same_table (spz_len (len__law_same_table (K := K))) (fun cdv A outer s H vs Q E hr h => ⟨_, ps__law_same_table T D__law_same_option hr, sv_def h fun G ds R X hF => pure__law_same_table ⟨K, G, H, NoF⟩ T _ ds R X hF⟩), gm, FD.kp, FD.bindsN fun _ _ _ _ _ _ us hl => match us, hl with | [_, _], _ => rfl⟩
theorem ok__law_same_machine (T : Tx w K mg) (D__law_same_table : Df P w K mg base "_law_same_table" ["told", "rows"] 3 (spz K (F__law_same_table K))) (D__law_whole : Df P w K mg base "_law_whole" ["value"] 1 (spz K (F__law_whole K))) {fd : FuncData} (FD : FunD K "_law_same_machine" "_law_same_machine" (defArgs s__law_same_machine) (defBody s__law_same_machine) (defScope s__law_same_machine) [] [] (He.ga K "_law_same_machine") fd) (gm : mg "_law_same_machine" = some (.ref (He.ga K "_law_same_machine"))) : Df P w K mg base "_law_same_machine" ["machine", "letters", "second", "rows"] 4 (spz K (F__law_same_machine K)) :=
  ⟨_, fd, FD.ok sc__law_same_machine (spz_len (len__law_same_machine (K := K))) (fun cdv A outer s H vs Q E hr h => ⟨_, ps__law_same_machine T D__law_same_table D__law_whole hr, sv_def h fun G ds R X hF => pure__law_same_machine ⟨K, G, H, NoF⟩ T _ ds R X hF⟩), gm, FD.kp, FD.bindsN fun _ _ _ _ _ _ us hl => match us, hl with | [_, _, _, _], _ => rfl⟩
theorem ok_play_two (T : Tx w K mg) (D_BadText : Dx P w K mg base "BadText" (He.ga K "BadText") ["self", "index"] (spX1 (He.ga K "BadText") "index")) {fd : FuncData} (FD : FunD K "play_two" "play_two" (defArgs s_play_two) (defBody s_play_two) (defScope s_play_two) [] [] (He.ga K "play_two") fd) (gm : mg "play_two" = some (.ref (He.ga K "play_two"))) : Df P w K mg base "play_two" ["machine", "text", "most"] 3 (spz K (F_play_two K)) :=
  ⟨_, fd, FD.ok sc_play_two (spz_len (len_play_two (K := K))) (fun cdv A outer s H vs Q E hr h => ⟨_, ps_play_two T D_BadText hr, sv_def h fun G ds R X hF => pure_play_two ⟨K, G, H, NoF⟩ T _ ds R X hF⟩), gm, FD.kp, FD.bindsN fun _ _ _ _ _ _ us hl => match us, hl with | [_, _, _], _ => rfl⟩
theorem ok__law_bad_index (T : Tx w K mg) (D_play_two : Df P w K mg base "play_two" ["machine", "text", "most"] 3 (spz K (F_play_two K))) {fd : FuncData} (FD : FunD K "_law_bad_index" "_law_bad_index" (defArgs s__law_bad_index) (defBody s__law_bad_index) (defScope s__law_bad_index) [] [] (He.ga K "_law_bad_index") fd) (gm : mg "_law_bad_index" = some (.ref (He.ga K "_law_bad_index"))) : Df P w K mg base "_law_bad_index" ["machine", "text", "bound"] 4 (spz K (F__law_bad_index K)) :=
  ⟨_, fd, FD.ok sc__law_bad_index (spz_len (len__law_bad_index (K := K))) (fun cdv A outer s H vs Q E hr h => ⟨_, ps__law_bad_index T D_play_two hr, sv_def h fun G ds R X hF => pure__law_bad_index ⟨K, G, H, NoF⟩ T _ ds R X hF⟩), gm, FD.kp, FD.bindsN fun _ _ _ _ _ _ us hl => match us, hl with | [_, _, _], _ => rfl⟩
theorem ok__law_refuses_texts (T : Tx w K mg) (D__law_bad_index : Df P w K mg base "_law_bad_index" ["machine", "text", "bound"] 4 (spz K (F__law_bad_index K))) (D__law_whole : Df P w K mg base "_law_whole" ["value"] 1 (spz K (F__law_whole K))) {fd : FuncData} (FD : FunD K "_law_refuses_texts" "_law_refuses_texts" (defArgs s__law_refuses_texts) (defBody s__law_refuses_texts) (defScope s__law_refuses_texts) [] [] (He.ga K "_law_refuses_texts") fd) (gm : mg "_law_refuses_texts" = some (.ref (He.ga K "_law_refuses_texts"))) : Df P w K mg base "_law_refuses_texts" ["machine", "letters", "text", "digits", "bound"] 5 (spz K (F__law_refuses_texts K)) :=
  ⟨_, fd, FD.ok sc__law_refuses_texts (spz_len (len__law_refuses_texts (K := K))) (fun cdv A outer s H vs Q E hr h => ⟨_, ps__law_refuses_texts T D__law_bad_index D__law_whole hr, sv_def h fun G ds R X hF => pure__law_refuses_texts ⟨K, G, H, NoF⟩ T _ ds R X hF⟩), gm, FD.kp, FD.bindsN fun _ _ _ _ _ _ us hl => match us, hl with | [_, _, _, _, _], _ => rfl⟩
theorem ok__law_wrong_letters (T : Tx w K mg) (D__law_handed : Df P w K mg base "_law_handed" ["rows", "style"] 1 (spm K (F__law_handed K))) (D__law_told : Df P w K mg base "_law_told" ["letters", "second", "handed"] 10 (spz K (F__law_told K))) (D__law_whole : Df P w K mg base "_law_whole" ["value"] 1 (spz K (F__law_whole K))) {fd : FuncData} (FD : FunD K "_law_wrong_letters" "_law_wrong_letters" (defArgs s__law_wrong_letters) (defBody s__law_wrong_letters) (defScope s__law_wrong_letters) [] [] (He.ga K "_law_wrong_letters") fd) (gm : mg "_law_wrong_letters" = some (.ref (He.ga K "_law_wrong_letters"))) : Df P w K mg base "_law_wrong_letters" ["letters", "second", "rows", "number"] 11 (spz K (F__law_wrong_letters K)) :=
  ⟨_, fd, FD.ok sc__law_wrong_letters (spz_len (len__law_wrong_letters (K := K))) (fun cdv A outer s H vs Q E hr h => ⟨_, ps__law_wrong_letters T D__law_handed D__law_told D__law_whole hr, sv_def h fun G ds R X hF => pure__law_wrong_letters ⟨K, G, H, NoF⟩ T _ ds R X hF⟩), gm, FD.kp, FD.bindsN fun _ _ _ _ _ _ us hl => match us, hl with | [_, _, _, _], _ => rfl⟩
theorem ok__law_walk (T : Tx w K mg)  {fd : FuncData} (FD : FunD K "_law_walk" "_law_walk" (defArgs s__law_walk) (defBody s__law_walk) (defScope s__law_walk) [] [] (He.ga K "_law_walk") fd) (gm : mg "_law_walk" = some (.ref (He.ga K "_law_walk"))) : Df P w K mg base "_law_walk" ["rows", "symbols", "longest"] 1 (spz K (F__law_walk K)) :=
  ⟨_, fd, FD.ok sc__law_walk (spz_len (len__law_walk (K := K))) (fun cdv A outer s H vs Q E hr h => ⟨_, ps__law_walk T  hr, sv_def h fun G ds R X hF => pure__law_walk ⟨K, G, H, NoF⟩ T _ ds R X hF⟩), gm, FD.kp, FD.bindsN fun _ _ _ _ _ _ us hl => match us, hl with | [_, _, _], _ => rfl⟩
theorem ok__law_same_play (T : Tx w K mg) (D__law_whole : Df P w K mg base "_law_whole" ["value"] 1 (spz K (F__law_whole K))) {fd : FuncData} (FD : FunD K "_law_same_play" "_law_same_play" (defArgs s__law_same_play) (defBody s__law_same_play) (defScope s__law_same_play) [] [] (He.ga K "_law_same_play") fd) (gm : mg "_law_same_play" = some (.ref (He.ga K "_law_same_play"))) : Df P w K mg base "_law_same_play" ["told", "moves", "word"] 2 (spz K (F__law_same_play K)) :=
  ⟨_, fd, FD.ok sc__law_same_play (spz_len (len__law_same_play (K := K))) (fun cdv A outer s H vs Q E hr h => ⟨_, ps__law_same_play T D__law_whole hr, sv_def h fun G ds R X hF => pure__law_same_play ⟨K, G, H, NoF⟩ T _ ds R X hF⟩), gm, FD.kp, FD.bindsN fun _ _ _ _ _ _ us hl => match us, hl with | [_, _, _], _ => rfl⟩
theorem ok__law_plays (T : Tx w K mg) (D__law_same_play : Df P w K mg base "_law_same_play" ["told", "moves", "word"] 2 (spz K (F__law_same_play K))) (D__law_walk : Df P w K mg base "_law_walk" ["rows", "symbols", "longest"] 1 (spz K (F__law_walk K))) (D_play_two : Df P w K mg base "play_two" ["machine", "text", "most"] 3 (spz K (F_play_two K))) {fd : FuncData} (FD : FunD K "_law_plays" "_law_plays" (defArgs s__law_plays) (defBody s__law_plays) (defScope s__law_plays) [] [] (He.ga K "_law_plays") fd) (gm : mg "_law_plays" = some (.ref (He.ga K "_law_plays"))) : Df P w K mg base "_law_plays" ["machine", "rows", "letters", "text", "longest", "other"] 4 (spz K (F__law_plays K)) :=
  ⟨_, fd, FD.ok sc__law_plays (spz_len (len__law_plays (K := K))) (fun cdv A outer s H vs Q E hr h => ⟨_, ps__law_plays T D__law_same_play D__law_walk D_play_two hr, sv_def h fun G ds R X hF => pure__law_plays ⟨K, G, H, NoF⟩ T _ ds R X hF⟩), gm, FD.kp, FD.bindsN fun _ _ _ _ _ _ us hl => match us, hl with | [_, _, _, _, _, _], _ => rfl⟩
theorem okf_law (T : Tx w K mg) (C_TwoTape : Dc P w K mg base "TwoTape" (He.ga K "TwoTape") ["self", "letters", "second_symbols", "table"] 8 (spI K (He.ga K "TwoTape") (F_TwoTape K))) (D__law_cell : Df P w K mg base "_law_cell" ["script", "k"] 1 (spz K (F__law_cell K))) (D__law_changed_tables : Df P w K mg base "_law_changed_tables" ["script", "letters", "second", "rows", "style"] 11 (spz K (F__law_changed_tables K))) (D__law_digits : Df P w K mg base "_law_digits" ["cell", "sizes"] 1 (spz K (F__law_digits K))) (D__law_handed : Df P w K mg base "_law_handed" ["rows", "style"] 1 (spm K (F__law_handed K))) (D__law_letters : Df P w K mg base "_law_letters" ["row"] 1 (spz K (F__law_letters K))) (D__law_plays : Df P w K mg base "_law_plays" ["machine", "rows", "letters", "text", "longest", "other"] 4 (spz K (F__law_plays K))) (D__law_refuses_texts : Df P w K mg base "_law_refuses_texts" ["machine", "letters", "text", "digits", "bound"] 5 (spz K (F__law_refuses_texts K))) (D__law_ruin : Df P w K mg base "_law_ruin" ["handed"] 1 (spm K (F__law_ruin K))) (D__law_same_machine : Df P w K mg base "_law_same_machine" ["machine", "letters", "second", "rows"] 4 (spz K (F__law_same_machine K))) (D__law_two_table : Df P w K mg base "_law_two_table" ["script", "at", "first", "second", "states"] 2 (spz K (F__law_two_table K))) (D__law_wrong_letters : Df P w K mg base "_law_wrong_letters" ["letters", "second", "rows", "number"] 11 (spz K (F__law_wrong_letters K))) {fd : FuncData} (FD : FunD K "law" "law" (defArgs s_law) (defBody s_law) (defScope s_law) [] [] (He.ga K "law") fd) : FnOk P w K mg base (L2.CX P w) 12 (He.ga K "law") fd ["script"] (spz K Flaw) :=
  FD.ok sc_law (spz_len (len_law (K := K))) (fun cdv A outer s H vs Q E hr h => ⟨_, ps_law T C_TwoTape D__law_cell D__law_changed_tables D__law_digits D__law_handed D__law_letters D__law_plays D__law_refuses_texts D__law_ruin D__law_same_machine D__law_two_table D__law_wrong_letters hr, sv_def h fun G ds R X hF => pure_law ⟨K, G, H, NoF⟩ T _ ds R X hF⟩)
end
def d__law_digits : He.DefD := ⟨("_law_digits", none), "_law_digits", "_law_digits", defArgs s__law_digits, defBody s__law_digits, defScope s__law_digits, [], []⟩
def d__law_letters : He.DefD := ⟨("_law_letters", none), "_law_letters", "_law_letters", defArgs s__law_letters, defBody s__law_letters, defScope s__law_letters, [], []⟩
def d__law_cell : He.DefD := ⟨("_law_cell", none), "_law_cell", "_law_cell", defArgs s__law_cell, defBody s__law_cell, defScope s__law_cell, [], []⟩
def d__law_two_option : He.DefD := ⟨("_law_two_option", none), "_law_two_option", "_law_two_option", defArgs s__law_two_option, defBody s__law_two_option, defScope s__law_two_option, [], []⟩
def d__law_two_table : He.DefD := ⟨("_law_two_table", none), "_law_two_table", "_law_two_table", defArgs s__law_two_table, defBody s__law_two_table, defScope s__law_two_table, [], []⟩
def d__law_handed : He.DefD := ⟨("_law_handed", none), "_law_handed", "_law_handed", defArgs s__law_handed, defBody s__law_handed, defScope s__law_handed, [], []⟩
def d_are_letters : He.DefD := ⟨("are_letters", none), "are_letters", "are_letters", defArgs s_are_letters, defBody s_are_letters, defScope s_are_letters, [], []⟩
def d_check_letters : He.DefD := ⟨("check_letters", none), "check_letters", "check_letters", defArgs s_check_letters, defBody s_check_letters, defScope s_check_letters, [], []⟩
def d_frozen : He.DefD := ⟨("frozen", none), "frozen", "frozen", defArgs s_frozen, defBody s_frozen, defScope s_frozen, [], []⟩
def d_is_whole : He.DefD := ⟨("is_whole", none), "is_whole", "is_whole", defArgs s_is_whole, defBody s_is_whole, defScope s_is_whole, [], []⟩
def d_is_two_option : He.DefD := ⟨("is_two_option", none), "is_two_option", "is_two_option", defArgs s_is_two_option, defBody s_is_two_option, defScope s_is_two_option, [], []⟩
def d_is_two_row : He.DefD := ⟨("is_two_row", none), "is_two_row", "is_two_row", defArgs s_is_two_row, defBody s_is_two_row, defScope s_is_two_row, [], []⟩
def d_TwoTape : He.DefD := ⟨("TwoTape", some "__init__"), "__init__", "TwoTape.__init__", defArgs s_TwoTape, defBody s_TwoTape, defScope s_TwoTape, [], []⟩
def d__law_ruin : He.DefD := ⟨("_law_ruin", none), "_law_ruin", "_law_ruin", defArgs s__law_ruin, defBody s__law_ruin, defScope s__law_ruin, [], []⟩
def d__law_other_option : He.DefD := ⟨("_law_other_option", none), "_law_other_option", "_law_other_option", defArgs s__law_other_option, defBody s__law_other_option, defScope s__law_other_option, [], []⟩
def d__law_spoilt : He.DefD := ⟨("_law_spoilt", none), "_law_spoilt", "_law_spoilt", defArgs s__law_spoilt, defBody s__law_spoilt, defScope s__law_spoilt, [], []⟩
def d__law_whole : He.DefD := ⟨("_law_whole", none), "_law_whole", "_law_whole", defArgs s__law_whole, defBody s__law_whole, defScope s__law_whole, [], []⟩
def d__law_right_option : He.DefD := ⟨("_law_right_option", none), "_law_right_option", "_law_right_option", defArgs s__law_right_option, defBody s__law_right_option, defScope s__law_right_option, [], []⟩
def d__law_first_wrong : He.DefD := ⟨("_law_first_wrong", none), "_law_first_wrong", "_law_first_wrong", defArgs s__law_first_wrong, defBody s__law_first_wrong, defScope s__law_first_wrong, [], []⟩
def d__law_told : He.DefD := ⟨("_law_told", none), "_law_told", "_law_told", defArgs s__law_told, defBody s__law_told, defScope s__law_told, [], []⟩
def d__law_changed_tables : He.DefD := ⟨("_law_changed_tables", none), "_law_changed_tables", "_law_changed_tables", defArgs s__law_changed_tables, defBody s__law_changed_tables, defScope s__law_changed_tables, [], []⟩
def d__law_same_option : He.DefD := ⟨("_law_same_option", none), "_law_same_option", "_law_same_option", defArgs s__law_same_option, defBody s__law_same_option, defScope s__law_same_option, [], []⟩
def d__law_same_table : He.DefD := ⟨("_law_same_table", none), "_law_same_table", "_law_same_table", defArgs s__law_same_table, defBody s__law_same_table, defScope s__law_same_table, [], []⟩
def d__law_same_machine : He.DefD := ⟨("_law_same_machine", none), "_law_same_machine", "_law_same_machine", defArgs s__law_same_machine, defBody s__law_same_machine, defScope s__law_same_machine, [], []⟩
def d_play_two : He.DefD := ⟨("play_two", none), "play_two", "play_two", defArgs s_play_two, defBody s_play_two, defScope s_play_two, [], []⟩
def d__law_bad_index : He.DefD := ⟨("_law_bad_index", none), "_law_bad_index", "_law_bad_index", defArgs s__law_bad_index, defBody s__law_bad_index, defScope s__law_bad_index, [], []⟩
def d__law_refuses_texts : He.DefD := ⟨("_law_refuses_texts", none), "_law_refuses_texts", "_law_refuses_texts", defArgs s__law_refuses_texts, defBody s__law_refuses_texts, defScope s__law_refuses_texts, [], []⟩
def d__law_wrong_letters : He.DefD := ⟨("_law_wrong_letters", none), "_law_wrong_letters", "_law_wrong_letters", defArgs s__law_wrong_letters, defBody s__law_wrong_letters, defScope s__law_wrong_letters, [], []⟩
def d__law_walk : He.DefD := ⟨("_law_walk", none), "_law_walk", "_law_walk", defArgs s__law_walk, defBody s__law_walk, defScope s__law_walk, [], []⟩
def d__law_same_play : He.DefD := ⟨("_law_same_play", none), "_law_same_play", "_law_same_play", defArgs s__law_same_play, defBody s__law_same_play, defScope s__law_same_play, [], []⟩
def d__law_plays : He.DefD := ⟨("_law_plays", none), "_law_plays", "_law_plays", defArgs s__law_plays, defBody s__law_plays, defScope s__law_plays, [], []⟩
def d_law : He.DefD := ⟨("law", none), "law", "law", defArgs s_law, defBody s_law, defScope s_law, [], []⟩
def d_BadLetters : He.DefD := ⟨("BadLetters", some "__init__"), "__init__", "BadLetters.__init__", defArgs s_BadLetters, defBody s_BadLetters, defScope s_BadLetters, [], []⟩
def d_BadText : He.DefD := ⟨("BadText", some "__init__"), "__init__", "BadText.__init__", defArgs s_BadText, defBody s_BadText, defScope s_BadText, [], []⟩
def d_BadTable : He.DefD := ⟨("BadTable", some "__init__"), "__init__", "BadTable.__init__", defArgs s_BadTable, defBody s_BadTable, defScope s_BadTable, [], []⟩
def fn : List He.DefD := [d_BadLetters, d_BadText, d_BadTable, d__law_digits, d__law_letters, d__law_cell, d__law_two_option, d__law_two_table, d__law_handed, d_are_letters, d_check_letters, d_frozen, d_is_whole, d_is_two_option, d_is_two_row, d_TwoTape, d__law_ruin, d__law_other_option, d__law_spoilt, d__law_whole, d__law_right_option, d__law_first_wrong, d__law_told, d__law_changed_tables, d__law_same_option, d__law_same_table, d__law_same_machine, d_play_two, d__law_bad_index, d__law_refuses_texts, d__law_wrong_letters, d__law_walk, d__law_same_play, d__law_plays, d_law]
def factsAll : List (PySem.W.Frag → Bool) := facts ++ [fun K => gloB K "_law_digits", fun K => gloB K "_law_letters", fun K => gloB K "_law_cell", fun K => gloB K "_law_two_option", fun K => gloB K "_law_two_table", fun K => gloB K "_law_handed", fun K => gloB K "are_letters", fun K => gloB K "check_letters", fun K => gloB K "frozen", fun K => gloB K "is_whole", fun K => gloB K "is_two_option", fun K => gloB K "is_two_row", fun K => gloB K "_law_ruin", fun K => gloB K "_law_other_option", fun K => gloB K "_law_spoilt", fun K => gloB K "_law_whole", fun K => gloB K "_law_right_option", fun K => gloB K "_law_first_wrong", fun K => gloB K "_law_told", fun K => gloB K "_law_changed_tables", fun K => gloB K "_law_same_option", fun K => gloB K "_law_same_table", fun K => gloB K "_law_same_machine", fun K => gloB K "play_two", fun K => gloB K "_law_bad_index", fun K => gloB K "_law_refuses_texts", fun K => gloB K "_law_wrong_letters", fun K => gloB K "_law_walk", fun K => gloB K "_law_same_play", fun K => gloB K "_law_plays", fun K => gloB K "law"]
def loose0 : List PySem.Str := ["ClockError", "BadLetters", "BadText", "BadTable", "Guesses", "ALPHABET", "frozen", "is_whole", "are_letters", "check_letters", "is_two_option", "is_two_row"]
def loose1 : List PySem.Str := ["TwoTape", "play_two", "_law_whole", "_law_cell", "_law_digits", "_law_letters", "_law_two_option", "_law_two_table", "_law_handed", "_law_ruin", "_law_other_option", "_law_spoilt"]
def loose2 : List PySem.Str := ["_law_right_option", "_law_first_wrong", "_law_told", "_law_same_option", "_law_same_table", "_law_same_machine", "_law_walk", "_law_same_play", "_law_plays", "_law_bad_index", "_law_refuses_texts", "_law_wrong_letters"]
def loose3 : List PySem.Str := ["_law_changed_tables"]
def loose : List PySem.Str := loose0 ++ loose1 ++ loose2 ++ loose3
abbrev R : PySem.W.OpenRow := PySem.W.OpenLaw.row PySem.Challenge.rw_straightclock_k82_two_tapes_played
abbrev hk : PySem.W.Hook := hookW 7 factsAll fn tabs
def ob (s : PySem.W.SharedT) : AlZ := obsWG 7 factsAll fn tabs (HandSHeadRun.getT s)
theorem ob_eq (s : PySem.W.SharedT) : ob s = hk.obs s.abs := obsWG_eq (HandSHeadRun.getT_eq s)
theorem run (w : World) : HandSHeadRun.RunEq R (PySem.W.view R.prog [41]) hk ob 4000 loose w := by
  intro os
  kernel_rfl
theorem fin {P : Program} {w : World} {K : PySem.W.Frag} {h : Heap} {mg : Str → Option Value} {f : Addr} (X : K.In h) (G : h.Ns mainGlobals mg) (hfa : mg ("law" : Str) = some (.ref f)) (cw : SaysW factsAll fn tabs w K) :
    ∃ fd : FuncData, (∀ (s : Shared) (v : Value), BindsTo s fd ⟨[v], []⟩ [("script", v)]) ∧ ∀ base : Heap, K.In base → base.Ns mainGlobals mg → FnOk P w K mg base (L2.CX P w) 12 f fd ["script"] (spz K Flaw) := by
  have c := cw.z
  have T : Tx w K mg := tx_of X G (fun i f h => c.fact i (fact_app h)) fun i t h => cw.tab i h
  obtain ⟨fd_BadLetters, FD_BadLetters⟩ := c.def_ 0 (d := d_BadLetters) rfl
  obtain ⟨fd_BadText, FD_BadText⟩ := c.def_ 1 (d := d_BadText) rfl
  obtain ⟨fd_BadTable, FD_BadTable⟩ := c.def_ 2 (d := d_BadTable) rfl
  obtain ⟨fd__law_digits, FD__law_digits⟩ := c.def_ 3 (d := d__law_digits) rfl
  obtain ⟨fd__law_letters, FD__law_letters⟩ := c.def_ 4 (d := d__law_letters) rfl
  obtain ⟨fd__law_cell, FD__law_cell⟩ := c.def_ 5 (d := d__law_cell) rfl
  obtain ⟨fd__law_two_option, FD__law_two_option⟩ := c.def_ 6 (d := d__law_two_option) rfl
  obtain ⟨fd__law_two_table, FD__law_two_table⟩ := c.def_ 7 (d := d__law_two_table) rfl
  obtain ⟨fd__law_handed, FD__law_handed⟩ := c.def_ 8 (d := d__law_handed) rfl
  obtain ⟨fd_are_letters, FD_are_letters⟩ := c.def_ 9 (d := d_are_letters) rfl
  obtain ⟨fd_check_letters, FD_check_letters⟩ := c.def_ 10 (d := d_check_letters) rfl
  obtain ⟨fd_frozen, FD_frozen⟩ := c.def_ 11 (d := d_frozen) rfl
  obtain ⟨fd_is_whole, FD_is_whole⟩ := c.def_ 12 (d := d_is_whole) rfl
  obtain ⟨fd_is_two_option, FD_is_two_option⟩ := c.def_ 13 (d := d_is_two_option) rfl
  obtain ⟨fd_is_two_row, FD_is_two_row⟩ := c.def_ 14 (d := d_is_two_row) rfl
  obtain ⟨fd_TwoTape, FD_TwoTape⟩ := c.def_ 15 (d := d_TwoTape) rfl
  obtain ⟨fd__law_ruin, FD__law_ruin⟩ := c.def_ 16 (d := d__law_ruin) rfl
  obtain ⟨fd__law_other_option, FD__law_other_option⟩ := c.def_ 17 (d := d__law_other_option) rfl
  obtain ⟨fd__law_spoilt, FD__law_spoilt⟩ := c.def_ 18 (d := d__law_spoilt) rfl
  obtain ⟨fd__law_whole, FD__law_whole⟩ := c.def_ 19 (d := d__law_whole) rfl
  obtain ⟨fd__law_right_option, FD__law_right_option⟩ := c.def_ 20 (d := d__law_right_option) rfl
  obtain ⟨fd__law_first_wrong, FD__law_first_wrong⟩ := c.def_ 21 (d := d__law_first_wrong) rfl
  obtain ⟨fd__law_told, FD__law_told⟩ := c.def_ 22 (d := d__law_told) rfl
  obtain ⟨fd__law_changed_tables, FD__law_changed_tables⟩ := c.def_ 23 (d := d__law_changed_tables) rfl
  obtain ⟨fd__law_same_option, FD__law_same_option⟩ := c.def_ 24 (d := d__law_same_option) rfl
  obtain ⟨fd__law_same_table, FD__law_same_table⟩ := c.def_ 25 (d := d__law_same_table) rfl
  obtain ⟨fd__law_same_machine, FD__law_same_machine⟩ := c.def_ 26 (d := d__law_same_machine) rfl
  obtain ⟨fd_play_two, FD_play_two⟩ := c.def_ 27 (d := d_play_two) rfl
  obtain ⟨fd__law_bad_index, FD__law_bad_index⟩ := c.def_ 28 (d := d__law_bad_index) rfl
  obtain ⟨fd__law_refuses_texts, FD__law_refuses_texts⟩ := c.def_ 29 (d := d__law_refuses_texts) rfl
  obtain ⟨fd__law_wrong_letters, FD__law_wrong_letters⟩ := c.def_ 30 (d := d__law_wrong_letters) rfl
  obtain ⟨fd__law_walk, FD__law_walk⟩ := c.def_ 31 (d := d__law_walk) rfl
  obtain ⟨fd__law_same_play, FD__law_same_play⟩ := c.def_ 32 (d := d__law_same_play) rfl
  obtain ⟨fd__law_plays, FD__law_plays⟩ := c.def_ 33 (d := d__law_plays) rfl
  obtain ⟨fd_law, FD_law⟩ := c.def_ 34 (d := d_law) rfl
  have gm__law_digits := He.glo_ok X G (x := "_law_digits") (c.fact 67 (f := fun K => gloB K "_law_digits") rfl)
  have gm__law_letters := He.glo_ok X G (x := "_law_letters") (c.fact 68 (f := fun K => gloB K "_law_letters") rfl)
  have gm__law_cell := He.glo_ok X G (x := "_law_cell") (c.fact 69 (f := fun K => gloB K "_law_cell") rfl)
  have gm__law_two_option := He.glo_ok X G (x := "_law_two_option") (c.fact 70 (f := fun K => gloB K "_law_two_option") rfl)
  have gm__law_two_table := He.glo_ok X G (x := "_law_two_table") (c.fact 71 (f := fun K => gloB K "_law_two_table") rfl)
  have gm__law_handed := He.glo_ok X G (x := "_law_handed") (c.fact 72 (f := fun K => gloB K "_law_handed") rfl)
  have gm_are_letters := He.glo_ok X G (x := "are_letters") (c.fact 73 (f := fun K => gloB K "are_letters") rfl)
  have gm_check_letters := He.glo_ok X G (x := "check_letters") (c.fact 74 (f := fun K => gloB K "check_letters") rfl)
  have gm_frozen := He.glo_ok X G (x := "frozen") (c.fact 75 (f := fun K => gloB K "frozen") rfl)
  have gm_is_whole := He.glo_ok X G (x := "is_whole") (c.fact 76 (f := fun K => gloB K "is_whole") rfl)
  have gm_is_two_option := He.glo_ok X G (x := "is_two_option") (c.fact 77 (f := fun K => gloB K "is_two_option") rfl)
  have gm_is_two_row := He.glo_ok X G (x := "is_two_row") (c.fact 78 (f := fun K => gloB K "is_two_row") rfl)
  have gm__law_ruin := He.glo_ok X G (x := "_law_ruin") (c.fact 79 (f := fun K => gloB K "_law_ruin") rfl)
  have gm__law_other_option := He.glo_ok X G (x := "_law_other_option") (c.fact 80 (f := fun K => gloB K "_law_other_option") rfl)
  have gm__law_spoilt := He.glo_ok X G (x := "_law_spoilt") (c.fact 81 (f := fun K => gloB K "_law_spoilt") rfl)
  have gm__law_whole := He.glo_ok X G (x := "_law_whole") (c.fact 82 (f := fun K => gloB K "_law_whole") rfl)
  have gm__law_right_option := He.glo_ok X G (x := "_law_right_option") (c.fact 83 (f := fun K => gloB K "_law_right_option") rfl)
  have gm__law_first_wrong := He.glo_ok X G (x := "_law_first_wrong") (c.fact 84 (f := fun K => gloB K "_law_first_wrong") rfl)
  have gm__law_told := He.glo_ok X G (x := "_law_told") (c.fact 85 (f := fun K => gloB K "_law_told") rfl)
  have gm__law_changed_tables := He.glo_ok X G (x := "_law_changed_tables") (c.fact 86 (f := fun K => gloB K "_law_changed_tables") rfl)
  have gm__law_same_option := He.glo_ok X G (x := "_law_same_option") (c.fact 87 (f := fun K => gloB K "_law_same_option") rfl)
  have gm__law_same_table := He.glo_ok X G (x := "_law_same_table") (c.fact 88 (f := fun K => gloB K "_law_same_table") rfl)
  have gm__law_same_machine := He.glo_ok X G (x := "_law_same_machine") (c.fact 89 (f := fun K => gloB K "_law_same_machine") rfl)
  have gm_play_two := He.glo_ok X G (x := "play_two") (c.fact 90 (f := fun K => gloB K "play_two") rfl)
  have gm__law_bad_index := He.glo_ok X G (x := "_law_bad_index") (c.fact 91 (f := fun K => gloB K "_law_bad_index") rfl)
  have gm__law_refuses_texts := He.glo_ok X G (x := "_law_refuses_texts") (c.fact 92 (f := fun K => gloB K "_law_refuses_texts") rfl)
  have gm__law_wrong_letters := He.glo_ok X G (x := "_law_wrong_letters") (c.fact 93 (f := fun K => gloB K "_law_wrong_letters") rfl)
  have gm__law_walk := He.glo_ok X G (x := "_law_walk") (c.fact 94 (f := fun K => gloB K "_law_walk") rfl)
  have gm__law_same_play := He.glo_ok X G (x := "_law_same_play") (c.fact 95 (f := fun K => gloB K "_law_same_play") rfl)
  have gm__law_plays := He.glo_ok X G (x := "_law_plays") (c.fact 96 (f := fun K => gloB K "_law_plays") rfl)
  have gm_law := He.glo_ok X G (x := "law") (c.fact 97 (f := fun K => gloB K "law") rfl)
  have e := hfa.symm.trans gm_law
  cases e
  have b := FunD.bindsA (ps := ["script"]) FD_law fun _ _ _ _ _ _ us hl => match us, hl with | [_], _ => rfl
  refine ⟨fd_law, fun s v => b s [v] rfl, fun base _ _ => ?_⟩
  have D_BadLetters : Dx P w K mg base _ _ _ _ := dx_BadLetters T FD_BadLetters
  have D_BadText : Dx P w K mg base _ _ _ _ := dx_BadText T FD_BadText
  have D_BadTable : Dx P w K mg base _ _ _ _ := dx_BadTable T FD_BadTable
  have D__law_digits : Df P w K mg base _ _ _ _ := ok__law_digits T  FD__law_digits gm__law_digits
  have D__law_letters : Df P w K mg base _ _ _ _ := ok__law_letters T  FD__law_letters gm__law_letters
  have D__law_cell : Df P w K mg base _ _ _ _ := ok__law_cell T  FD__law_cell gm__law_cell
  have D__law_two_option : Df P w K mg base _ _ _ _ := ok__law_two_option T  FD__law_two_option gm__law_two_option
  have D__law_two_table : Df P w K mg base _ _ _ _ := ok__law_two_table T D__law_cell D__law_digits D__law_two_option FD__law_two_table gm__law_two_table
  have D__law_handed : Df P w K mg base _ _ _ _ := ok__law_handed T  FD__law_handed gm__law_handed
  have D_are_letters : Df P w K mg base _ _ _ _ := ok_are_letters T  FD_are_letters gm_are_letters
  have D_check_letters : Df P w K mg base _ _ _ _ := ok_check_letters T D_BadLetters D_are_letters FD_check_letters gm_check_letters
  have D_frozen : Df P w K mg base _ _ _ _ := ok_frozen T  FD_frozen gm_frozen 6
  have D_is_whole : Df P w K mg base _ _ _ _ := ok_is_whole T  FD_is_whole gm_is_whole
  have D_is_two_option : Df P w K mg base _ _ _ _ := ok_is_two_option T D_is_whole FD_is_two_option gm_is_two_option
  have D_is_two_row : Df P w K mg base _ _ _ _ := ok_is_two_row T D_is_two_option FD_is_two_row gm_is_two_row
  have C_TwoTape : Dc P w K mg base _ _ _ _ _ := ok_TwoTape T D_BadTable D_check_letters D_frozen D_is_two_row FD_TwoTape
  have D__law_ruin : Df P w K mg base _ _ _ _ := ok__law_ruin T  FD__law_ruin gm__law_ruin
  have D__law_other_option : Df P w K mg base _ _ _ _ := ok__law_other_option T  FD__law_other_option gm__law_other_option
  have D__law_spoilt : Df P w K mg base _ _ _ _ := ok__law_spoilt T D__law_other_option FD__law_spoilt gm__law_spoilt
  have D__law_whole : Df P w K mg base _ _ _ _ := ok__law_whole T  FD__law_whole gm__law_whole
  have D__law_right_option : Df P w K mg base _ _ _ _ := ok__law_right_option T D__law_whole FD__law_right_option gm__law_right_option
  have D__law_first_wrong : Df P w K mg base _ _ _ _ := ok__law_first_wrong T D__law_right_option FD__law_first_wrong gm__law_first_wrong
  have D__law_told : Df P w K mg base _ _ _ _ := ok__law_told T C_TwoTape FD__law_told gm__law_told
  have D__law_changed_tables : Df P w K mg base _ _ _ _ := ok__law_changed_tables T C_TwoTape D__law_cell D__law_digits D__law_first_wrong D__law_handed D__law_ruin D__law_spoilt D__law_told D__law_whole FD__law_changed_tables gm__law_changed_tables
  have D__law_same_option : Df P w K mg base _ _ _ _ := ok__law_same_option T D__law_whole FD__law_same_option gm__law_same_option
  have D__law_same_table : Df P w K mg base _ _ _ _ := ok__law_same_table T D__law_same_option FD__law_same_table gm__law_same_table
  have D__law_same_machine : Df P w K mg base _ _ _ _ := ok__law_same_machine T D__law_same_table D__law_whole FD__law_same_machine gm__law_same_machine
  have D_play_two : Df P w K mg base _ _ _ _ := ok_play_two T D_BadText FD_play_two gm_play_two
  have D__law_bad_index : Df P w K mg base _ _ _ _ := ok__law_bad_index T D_play_two FD__law_bad_index gm__law_bad_index
  have D__law_refuses_texts : Df P w K mg base _ _ _ _ := ok__law_refuses_texts T D__law_bad_index D__law_whole FD__law_refuses_texts gm__law_refuses_texts
  have D__law_wrong_letters : Df P w K mg base _ _ _ _ := ok__law_wrong_letters T D__law_handed D__law_told D__law_whole FD__law_wrong_letters gm__law_wrong_letters
  have D__law_walk : Df P w K mg base _ _ _ _ := ok__law_walk T  FD__law_walk gm__law_walk
  have D__law_same_play : Df P w K mg base _ _ _ _ := ok__law_same_play T D__law_whole FD__law_same_play gm__law_same_play
  have D__law_plays : Df P w K mg base _ _ _ _ := ok__law_plays T D__law_same_play D__law_walk D_play_two FD__law_plays gm__law_plays
  exact okf_law T C_TwoTape D__law_cell D__law_changed_tables D__law_digits D__law_handed D__law_letters D__law_plays D__law_refuses_texts D__law_ruin D__law_same_machine D__law_two_table D__law_wrong_letters FD_law
end L
open PySem PySem.W PySem.Calls PyProof.Rows
theorem PySem.Challenge.cw_straightclock_k82_two_tapes_played_holds : PySem.Challenge.rw_straightclock_k82_two_tapes_played.Holds := by
  w_on; o_law
  refine HandSHeadRun.head_any (r := OpenLaw.row PySem.Challenge.rw_straightclock_k82_two_tapes_played) (q := view (OpenLaw.row PySem.Challenge.rw_straightclock_k82_two_tapes_played).prog [41]) (H := L.hk) (ob := L.ob) (M := 4000) (loose := L.loose) (d := HandSHeadRun.topDef (OpenLaw.row PySem.Challenge.rw_straightclock_k82_two_tapes_played).prog 41) (kwd := []) L.ob_eq
    (by kernel_rfl) (fun s => by kernel_rfl) L.run (by kernel_rfl) (by kernel_rfl) (by kernel_rfl) (by rfl) (by first | assumption | decide +kernel) (by decide +kernel) ⟨rfl, rfl, rfl, rfl, rfl, by decide +kernel⟩ ?hw ?hc
  case hw => w_witness2
  case hc =>
    refine Z.walk_ofX (l := PySem.Challenge.rw_straightclock_k82_two_tapes_played) (k := 12) (x := "script") rfl (by kernel_rfl) ⟨rfl, by decide, by decide⟩ ?_
    intro w mg fa h Y G hmg0
    obtain ⟨K, KX, c⟩ := Y
    have hmg : mg ("law" : PySem.Str) = some (.ref fa) := by
      have e : (HandSHeadRun.topDef (OpenLaw.row PySem.Challenge.rw_straightclock_k82_two_tapes_played).prog 41).name = ("law" : PySem.Str) := by kernel_rfl
      rw [← e]
      exact hmg0
    obtain ⟨fd, hb, hF⟩ := L.fin (P := (PySem.Challenge.rw_straightclock_k82_two_tapes_played).prog) (w := w) KX G hmg c
    exact ⟨K, fd, KX, hb, hF⟩
